import PyProof.Rows.All
import Wide.All
import OpenK.AllK
import Wide.FinOn
import KE.KExcSuper
import KE.KExcIs
import HandS.ForMost
import HandS.ForExc
import HandS.ExcInit
import HandS.ExcField
import HandS.IsInst
import HandS.Star
import HandS.TupAny
import HandS.TupLe
import HandS.TryMany
import HandS.Codes
import HandS.ExcIs
import HandS.Walk
import HandS.Zip
import KE.KTupSum
import PySem.Challenge.RW_widestparcels_k11_rows
set_option Elab.async false
set_option linter.all false
set_option maxRecDepth 100000
set_option maxHeartbeats 4000000
/-! Errors of the program: a class over ParcelError (itself over ValueError) whose __init__ calls super().__init__(text) and then stores its arguments under their own names. -/
namespace WpE
open PySem PySem.W PySem.Calls PyProof.Rows L2

/-- what the written part says of the class at C and of its __init__ at fI -/
structure ErrC (P : Program) (K : Frag) (C fI : Addr) (qual : Str) (prm : Arguments) (body : List Stmt) (sc : Scope) : Prop where
  cls : ∃ nm q N bs bm sn sub ab col dd k0 k1 k2 k3 k5, K.lookup C = some (excClassObj nm q C N bs bm true sn sub ab col dd k0 k1 k2 k3 k5 "ValueError.__new__") ∧ PySem.HandSPX.refsVE bm = true ∧ alongIn K "__init__" bm = some (some (.builtin "ValueError.__init__"))
  sa : findIn K (.ref C) "__setattr__" = some (some (.builtin "object.__setattr__"))
  iC : findIn K (.ref C) "__init__" = some (some (.ref fI))
  tI : typeIn K (.ref fI) = some (.type "function")
  exC : subIn K (.ref C) (.type "BaseException") = some true
  exV : subIn K (.ref C) (.type "ValueError") = some true
  mroC : mroIn K C (.ref C) = some true
  tyC : typeIn K (.ref C) = some (.type "type")
  kC : keepIn K (.ref C) = true
  op : nsIn K cStatics "thirdparty.any" = some none
  su : nsIn K mainGlobals "super" = some none
  tp : (P.main.scope.names.lookup ("super" : Str)).isSome = false
  fn : ∃ (oc : Value) (od : Option Addr) (doc pm : Value) (an : Option Addr) (cda cc : Addr) (ct : Value) (osl : Array (Option Value)) (ccl : Value) (cdd : Option Addr) (vs : Array Value) (ccs : Array (Option Value)) (file : Str) (tf : Tok) (cl : Value) (cld : Option Addr) (csl : Array (Option Value)),
    K.lookup fI = some ⟨oc, od, .func (fnX "__init__" qual prm body sc [("__class__", cc)] .none .none doc pm an (.ref cda) ct), osl⟩ ∧ codeIn K (.ref cda) qual = true ∧
    K.lookup cda = some ⟨ccl, cdd, .fields vs, ccs⟩ ∧ vs[2]? = some (.str file tf) ∧ ((P.main.file : Str) == file) = true ∧
    K.lookup cc = some ⟨cl, cld, .cell (some (.ref C)), csl⟩

def aOf (f : Str) (p : Pos) : Arg := { arg := f, annotation := none, pos := p }
def prmOf (xs : List (Str × Pos)) : Arguments := { posonlyargs := [], args := xs.map fun x => aOf x.1 x.2, vararg := none, kwonlyargs := [], kw_defaults := [], kwarg := none, defaults := [] }
def supOf (m : Str) (j : Nat) (p1 p2 p3 p4 p5 p6 : Pos) : Stmt := .Expr (.Call (.Attribute (.Call (.Name "super" p1) [] [] p2) "__init__" p3) [.Constant (.str m) j p4] [] p5) p6
def stoOf (f : Str) (q1 q2 q3 q4 : Pos) : Stmt := .Assign [.Attribute (.Name "self" q1) f q2] (.Name f q3) q4
def scOf (fs : List Str) : Scope := { kind := .function, names := (("self" : Str), .local) :: (fs.map (fun f => (f, NameKind.local)) ++ [(("__class__" : Str), .free), (("super" : Str), .globalImplicit)]), isGenerator := false, isCoroutine := false, more := [] }

theorem sup_he {env : Env} {m : Str} {j : Nat} {p1 p2 p3 p4 p5 : Pos} (hp : (p3.endLine == p5.line) = true) :
    eval (.Call (.Attribute (.Call (.Name "super" p1) [] [] p2) "__init__" p3) [.Constant (.str m) j p4] [] p5) env = (do
      let ov ← attributeBase (.Call (.Name "super" p1) [] [] p2) "__init__" env (eval (.Call (.Name "super" p1) [] [] p2) env)
      standAt p3.atName
      let (f, first) ← holding [ov] (getMethod ov "__init__" (do return (← importBound (.Call (.Name "super" p1) [] [] p2) env).getD true))
      callWith p5 f first (backTo p5 (starEach [.Constant (.str m) j p4] env)) []) := by
  have h1 : methodCallPos true (.Call (.Name "super" p1) [] [] p2) env p3 p5 = pure p5 := by
    unfold methodCallPos
    rw [hp]
    rfl
  show (do
      let ov ← attributeBase (.Call (.Name "super" p1) [] [] p2) "__init__" env (eval (.Call (.Name "super" p1) [] [] p2) env)
      standAt p3.atName
      let (f, first) ← holding [ov] (getMethod ov "__init__" (do return (← importBound (.Call (.Name "super" p1) [] [] p2) env).getD true))
      let callPos ← methodCallPos true (.Call (.Name "super" p1) [] [] p2) env p3 p5
      callWith callPos f first (backTo p5 (starEach [.Constant (.str m) j p4] env)) []) = _
  rw [h1]
  rfl
/-- what the first statement, super().__init__(m), leaves of a fresh exception -/
theorem sup_step {prog : Program} {w : World} {A : Around} {E : Value → Shared → Prop} {s : Shared} {K : Frag} {mg : Str → Option Value} {base : Heap} {C fI x t0 L cda cc : Addr} {qual : Str} {prm : Arguments} {body : List Stmt} {sc : Scope} {mm : Str → Option Value}
    {Q : Value → Shared → Prop} {m : Str} {j : Nat} {p1 p2 p3 p4 p5 : Pos} {p0 : Pos} {oc : Value} {od : Option Addr} {doc pm : Value} {an : Option Addr} {ct : Value} {osl : Array (Option Value)} {ccl : Value} {cdd : Option Addr} {vs : Array Value} {ccs : Array (Option Value)} {file : Str} {tf : Tok} {cl : Value} {cld : Option Addr} {csl : Array (Option Value)} {prest : List (Str × Pos)} {pl : Sem Bool}
    (he : eval (.Call (.Attribute (.Call (.Name "super" p1) [] [] p2) "__init__" p3) [.Constant (.str m) j p4] [] p5) (envX qual sc L fI (.ref cda) [("__class__", cc)]) = (do
      let ov ← attributeBase (.Call (.Name "super" p1) [] [] p2) "__init__" (envX qual sc L fI (.ref cda) [("__class__", cc)]) (eval (.Call (.Name "super" p1) [] [] p2) (envX qual sc L fI (.ref cda) [("__class__", cc)]))
      standAt p3.atName
      let (f, first) ← holding [ov] (getMethod ov "__init__" pl)
      callWith p5 f first (backTo p5 (starEach [.Constant (.str m) j p4] (envX qual sc L fI (.ref cda) [("__class__", cc)]))) []))
    (T : ErrC prog K C fI qual prm body sc) (M : Mod K mg base) (hb : ∀ b o, base.get? b = some o → s.heap.get? b = some o)
    (hprm : prm = prmOf (("self", p0) :: prest)) (hks : sc.names.lookup ("super" : Str) = some .globalImplicit) (hkc : sc.names.lookup ("__class__" : Str) = some .free) (hka : sc.names.lookup ("self" : Str) = some .local) (hk : sc.kind = .function)
    (l1 : K.lookup fI = some ⟨oc, od, .func (fnX "__init__" qual prm body sc [("__class__", cc)] .none .none doc pm an (.ref cda) ct), osl⟩)
    (l2 : K.lookup cda = some ⟨ccl, cdd, .fields vs, ccs⟩) (l3 : vs[2]? = some (.str file tf)) (l4 : ((prog.main.file : Str) == file) = true) (l5 : K.lookup cc = some ⟨cl, cld, .cell (some (.ref C)), csl⟩)
    (hx : s.heap.get? x = some (PySem.HandSPX.excO C t0)) (hn : s.heap.Ns L mm) (hself : mm "self" = some (.ref x))
    (hq : ∀ h' t1 tk, (∀ b o, b ≠ x → s.heap.get? b = some o → h'.get? b = some o) → h'.get? x = some (PySem.HandSPX.excO C t1) → Q .none { s with heap := h', toks := tk }) :
    _root_.PySem.wpAt (model prog w) A (.func body (envX qual sc L fI (.ref cda) [("__class__", cc)])) (eval (.Call (.Attribute (.Call (.Name "super" p1) [] [] p2) "__init__" p3) [.Constant (.str m) j p4] [] p5) (envX qual sc L fI (.ref cda) [("__class__", cc)])) Q E s := by
  obtain ⟨nm, q, N, bs, bm, sn, sub, ab, col, dd, k0, k1, k2, k3, k5, hC, hbm, hal⟩ := T.cls
  have KX : K.In s.heap := M.kin.keeps hb
  have hcl : clsIn K C = some { name := nm, bases := bs, mro := .ref C :: bm, ns := N, qualname := q, hasDict := true, slotNames := sn, subclasses := sub, abstract := ab, collection := col, hasDel := false } := by unfold clsIn; rw [hC] <;> rfl
  have I : InstAt s.heap x (PySem.HandSPX.excO C t0) C none := ⟨hx, rfl, rfl, trivial⟩
  have hxC : x ≠ C := ks_ne KX I hcl
  obtain ⟨mb, hmb, hbb⟩ := M.blt
  obtain ⟨oD, hD1, hD2⟩ : ∃ oD, s.heap.get? C = some oD ∧ oD.data = .cls { name := nm, bases := bs, mro := .ref C :: bm, ns := N, qualname := q, hasDict := true, slotNames := sn, subclasses := sub, abstract := ab, collection := col, hasDel := false } := ⟨_, KX _ _ hC, rfl⟩
  subst hprm
  obtain ⟨hh, g, d, t, os⟩ := s
  refine ks_wpAt_MethodCall ?_ he
  refine ks_wpAt_super_base (env := envX qual sc L fI (.ref cda) [("__class__", cc)]) hks hkc (by decide) rfl (KX _ _ l1) rfl rfl rfl (KX _ _ l2) rfl l3 l4 T.tp ?_
  refine ks_loadName_global hk hks (loadGlobal_builtin (env := envX qual sc L fI (.ref cda) [("__class__", cc)]) (M.glob.keeps hb) (mg_none_of M.kin M.glob T.su) (hmb.keeps hb) ((hbb _ (by decide +kernel)).trans (show bootBuiltins "super" = some (.type "super") by first | boot_by_name | rfl | kernel_rfl)) ⟨rfl, ?_⟩)
  refine wpAny_loadName_free hk hkc rfl ⟨_, KX _ _ l5, rfl⟩ ?_
  refine wpAny_loadName_local hk hka hn hself ?_
  refine ks_wpAny_isType_cls hD1 hD2 ⟨rfl, ?_⟩
  refine ks_wpAny_call_super hD1 hD2 I.at_ I.cls (fun c e => ?_) (looks_mroIn KX T.mroC) (fun h' e k => ?_)
  · have := I.no
    unfold notCls at this
    rw [e] at this
    exact Bool.noConfusion this
  · have KX' : K.In h' := KX.keeps k
    have hx' := k _ _ hx
    have I' : InstAt h' x (PySem.HandSPX.excO C t0) C none := ⟨hx', rfl, rfl, trivial⟩
    have hI : Looks (model prog w) h' (isInstance (.ref x) (.type "ValueError")) true := I'.type.andThen (looks_subIn KX' T.exV)
    refine kxs_getMethod kxs_ValueError e (looks_opaque KX' T.op) (l₀ := .ref C :: bm) (fun A Q E s k q => wpAny_bind ((looks_clsIn KX' hcl) A _ E s k (wpAny_pure q))) (l := bm) (by simp [List.dropWhile_cons]) KX' hal hI hxC (by decide) ?_
    show wpAny _ _ (callWith p5 (.ref h'.objs.size) [] (backTo p5 (starEach [.Constant (.str m) j p4] (envX qual sc L fI (.ref cda) [("__class__", cc)]))) []) _ _ _
    have kk : ∀ b o, hh.get? b = some o → (h'.push (kxs_mw "ValueError.__init__" x)).get? b = some o := fun b o z => Heap.get?_push_of_some _ (k b o z)
    have hu : (h'.push (kxs_mw "ValueError.__init__" x)).get? h'.objs.size = some (kxs_mw "ValueError.__init__" x) := Heap.get?_push_at rfl rfl
    generalize (h'.push (kxs_mw "ValueError.__init__" x)) = h2 at kk hu ⊢
    generalize h'.objs.size = u at hu ⊢
    have he1 : starEach [.Constant (.str m) j p4] (envX qual sc L fI (.ref cda) [("__class__", cc)]) = (false, eval (.Constant (.str m) j p4) (envX qual sc L fI (.ref cda) [("__class__", cc)])) :: starEach [] (envX qual sc L fI (.ref cda) [("__class__", cc)]) := rfl
    rw [he1]
    refine kxs_callWith (i := "ValueError.__init__") (x := x) rfl (evalArgs_plain ?_)
    refine Calls.spliced_cons (wpAny_Constant_str (k := j) (pos := p4) (Calls.spliced_nil ⟨hu, ?_⟩))
    show wpAny _ _ (call (.ref u) [.str m (t + 1)]) _ _ _
    have hx2 := kk _ _ hx
    have hC2 := kk _ _ (KX _ _ hC)
    refine wpAny_call (codeAny_of_tree ?_)
    show wpAny _ A.in1 (callAny (.ref u) ⟨[.str m (t + 1)], []⟩) _ _ _
    simp only [callAny]
    refine wpAny_bind (wpAny_load hu ?_)
    simp only [kxs_mw, show (Value.type "method-wrapper" == Value.type "method" || Value.type "method-wrapper" == Value.type "builtin_function_or_method" || Value.type "method-wrapper" == Value.type "method-wrapper") = true by decide, if_true]
    refine KFB.if_so (by decide) ?_
    refine wpAny_bind (check_bound_init F.excBase_ValueError.toExcCallFacts hC2 hx2 rfl ?_)
    refine wpAny_bind (wpAny_pure (wpAny_pure ?_))
    refine ⟨plainId_quiet F.excBase_ValueError.init.plain _, codeAny_builtin F.excBase_ValueError.initEntry ?_⟩
    refine exc_init_tree (cls := .ref C) (t0 := t0) (dv := none) (c2 := .none) (c3 := .none) (b4 := .bool false) hx2 (by rw [sizeLine_eq]; exact (by decide : 1 ≤ 16777216)) (fun h3 k3 e3 _ => ?_)
    exact hq h3 h2.objs.size _ (fun b o hb z => k3 b o hb (kk b o z)) e3
/-- the fields of a made error, the last one first -/
def fz {α : Type} (fs : List Str) (vs : List α) : List (Str × α) := (fs.zip vs).reverse
theorem fz_lookup {fs : List Str} {vs : List V} {us : List Value} (r : Vals vs us) (f : Str) : RelO ((fz fs vs).lookup f) ((fz fs us).lookup f) := by
  unfold fz
  have key : ∀ (gs : List Str) (vs : List V) (us : List Value) (av : List (Str × V)) (au : List (Str × Value)), Vals vs us → RelO (av.lookup f) (au.lookup f) → RelO (((gs.zip vs).reverse ++ av).lookup f) (((gs.zip us).reverse ++ au).lookup f) := by
    intro gs
    induction gs with
    | nil => intro vs us av au _ h; simpa using h
    | cons g gs ih =>
      intro vs us av au r h
      cases r with
      | nil => simpa using h
      | cons rv rn =>
        rename_i v u vs' us'
        have e1 : ((g :: gs).zip (v :: vs')).reverse ++ av = (gs.zip vs').reverse ++ ((g, v) :: av) := by simp
        have e2 : ((g :: gs).zip (u :: us')).reverse ++ au = (gs.zip us').reverse ++ ((g, u) :: au) := by simp
        rw [e1, e2]
        refine ih _ _ _ _ rn ?_
        by_cases hfg : f = g
        · subst hfg
          simp only [List.lookup, beq_self_eq_true]
          exact rv
        · have hb : (f == g) = false := by simpa using hfg
          simpa [List.lookup, hb] using h
  have := key fs vs us [] [] r (by trivial)
  simpa using this
/-- an error of the class at C, made at e, its own dict at d -/
structure ErrMade (h h' : Heap) (e C d : Addr) (mA : Str → Option Value) : Prop where
  keep : ∀ b o, h.get? b = some o → h'.get? b = some o
  new : h.objs.size ≤ e
  obj : ∃ oe vs, h'.get? e = some oe ∧ oe.cls = .ref C ∧ oe.dict = some d ∧ oe.data = .fields vs ∧ vs[1]? = some .none
  dbig : h.objs.size ≤ d
  dne : d ≠ e
  ns : h'.Ns1 d mA
/-- __init__ at fI, run upon a fresh exception of the class at C, stores its arguments under the names fs -/
def ErrInit (prog : Program) (w : World) (K : Frag) (mg : Str → Option Value) (C fI : Addr) (fs : List Str) : Prop :=
  ∀ (base : Heap) (A : Around) (s : Shared) (R : Result → Shared → Prop) (x t0 : Addr) (us : List Value), Mod K mg base → (∀ b o, base.get? b = some o → s.heap.get? b = some o) → s.heap.get? x = some (PySem.HandSPX.excO C t0) → K.lookup x = none → A.depth < recursionLimit → us.length = fs.length →
    (∀ h' tk dx t1, (∀ b o, b ≠ x → s.heap.get? b = some o → h'.get? b = some o) → h'.get? x = some { cls := .ref C, dict := some dx, data := .fields #[.ref t1, .none, .none, .none, .bool false, .none] } → s.heap.objs.size ≤ dx → dx ≠ x →
      h'.Ns1 dx (fun y => (fz fs us).lookup y) → R (.ok (.ret .none)) { s with heap := h', toks := tk }) →
    codeAny (model prog w) A (.call (.ref fI) ⟨.ref x :: us, []⟩) R s
theorem err_made {prog : Program} {w : World} {K : Frag} {mg : Str → Option Value} {base : Heap} {A : Around} {s : Shared} {R : Result → Shared → Prop} {C fI : Addr} {fs : List Str} {us : List Value} {qual : Str} {prm : Arguments} {body : List Stmt} {sc : Scope}
    (T : ErrC prog K C fI qual prm body sc) (N : ErrInit prog w K mg C fI fs) (M : Mod K mg base) (hb : ∀ b o, base.get? b = some o → s.heap.get? b = some o) (hroom : A.depth + 1 < recursionLimit) (hl : us.length = fs.length) (hz : us.length ≤ 1000)
    (hq : ∀ h' tk e d, ErrMade s.heap h' e C d (fun y => (fz fs us).lookup y) → R (.ok (.ret (.ref e))) { s with heap := h', toks := tk }) : codeAny (model prog w) A (.call (.ref C) ⟨us, []⟩) R s := by
  obtain ⟨nm, q, N', bs, bm, sn, sub, ab, col, dd, k0, k1, k2, k3, k5, hC, hbm, hal⟩ := T.cls
  obtain ⟨hp, g, dr, tk, os⟩ := s
  have KX : K.In hp := M.kin.keeps hb
  have k : ∀ b o, hp.get? b = some o → ((hp.push (kdv_tup us)).push (PySem.HandSPX.excO C hp.objs.size)).get? b = some o := fun b o e => Heap.get?_push_of_some _ (Heap.get?_push_of_some _ e)
  have hget : ((hp.push (kdv_tup us)).push (PySem.HandSPX.excO C hp.objs.size)).get? (hp.objs.size + 1) = some (PySem.HandSPX.excO C hp.objs.size) := by heap_get
  have hnx : K.lookup (hp.objs.size + 1) = none := by
    cases e : K.lookup (hp.objs.size + 1) with
    | none => rfl
    | some o =>
      have z : hp.get? (hp.objs.size + 1) = some o := KX _ _ e
      exact absurd (Nat.lt_of_succ_lt (Heap.lt_size z)) (Nat.lt_irrefl _)
  refine PySem.HandSPX.call_own F.excBase_ValueError (fun X => PySem.HandSPX.refsVE_contains X bm hbm) (KX _ _ hC) (looks_findIn KX T.iC) (fun self => bind_fn KX self T.tI) (by rw [sizeLine_eq]; omega) ?_
  refine N base _ ⟨(hp.push (kdv_tup us)).push (PySem.HandSPX.excO C hp.objs.size), g, dr, tk, os⟩ _ _ _ us M (fun b o z => k b o (hb b o z)) hget hnx ?_ hl fun h' tk' dx t1 k' hx dn dne hns => ?_
  · show A.depth + 1 < recursionLimit
    exact hroom
  · have old : ∀ b o, hp.get? b = some o → h'.get? b = some o := fun b o e => k' b o (Nat.ne_of_lt (Nat.lt_succ_of_lt (Heap.lt_size e))) (k b o e)
    have z : hp.objs.size + 1 + 1 ≤ dx := by
      first
        | (simpa only [Heap.size_push] using dn)
        | exact dn
    exact ⟨rfl, hq h' tk' (hp.objs.size + 1) dx ⟨old, Nat.le_succ _, ⟨_, _, hx, rfl, rfl, rfl, rfl⟩, Nat.le_trans (Nat.le_trans (Nat.le_succ _) (Nat.le_succ _)) z, dne, hns⟩⟩
/-- C(e, ..) as what is raised -/
def tMkErr (C : Addr) (fs : List Str) (ta : TA) : L2.St → Hp → XK → Prop := fun σ H Q => ta σ H fun vs H1 => vs.length = fs.length ∧ ∀ d, H1 d = none → Q (.ref C) (some d) (upd H1 d (.xd (fz fs vs)))
theorem pmk_err {X : Cx} {C fI : Addr} {fs : List Str} {x : Str} {a : Expr} {as : List Expr} {ta : TA} {p pos : Pos} {k : Nat} {qual : Str} {prm : Arguments} {body : List Stmt} {sc : Scope}
    (T : ErrC X.prog X.K C fI qual prm body sc) (N : ErrInit X.prog X.w X.K X.mg C fI fs) (hm : X.mg x = some (.ref C)) (hr : Room k X.A) (hf : fs.length ≤ 1000) (ha : PA X (a :: as) ta) (hg : Gl X x := by rfl) (hdb : (x == ("__debug__" : Str)) = false := by decide)
    (he : starEach (a :: as) X.env = (false, eval a X.env) :: starEach as X.env := by rfl) (hpl : (backTo pos (starEach as X.env)).any (·.1) = false := by rfl) :
    PMk X (.Call (.Name x p) (a :: as) [] pos) (tMkErr C fs ta) := by
  intro pins s σ H Q I h
  refine wpAny_Call_Name_kw (ld_glob I hg hm ?_ hdb)
  refine callWith_K (h₀ := X.base) I.ok.mod.kin T.kC (thn (ha.run pos pins s σ H _ I h) fun us s1 hh => ?_) he hpl
  obtain ⟨vs, H1, I1, r1, ev, q1⟩ := hh
  refine ⟨I1.kIn, ?_⟩
  show wpAny _ _ (call (.ref C) us) _ _ _
  have hlu : us.length = fs.length := by rw [← ev]; exact (Vals.length r1).symm
  have bk := I1.bk
  obtain ⟨hp, g, dr, tk, os⟩ := s1
  refine wpAny_call (err_made T N I1.ok.mod bk (by have := hr.dp; omega) hlu (by omega) fun h' tk' e d M => ?_)
  show MkP X pins σ Q (.ref e) ⟨h', g, dr, tk', os⟩
  obtain ⟨oe, fv, hoe, hc, hd, hdat, h1⟩ := M.obj
  have hns := M.ns
  obtain ⟨G', g1, g2⟩ := restrict h' fun b => decide (b ≠ e)
  have gk : ∀ b, b ≠ e → G'.get? b = h'.get? b := fun b hb => g1 b (decide_eq_true hb)
  have ge : G'.get? e = none := g2 e (by simp)
  have old : ∀ b o, hp.get? b = some o → G'.get? b = some o := fun b o q => (gk b (Nat.ne_of_lt (Nat.lt_of_lt_of_le (Heap.lt_size q) M.new))).trans (M.keep b o q)
  have ob : ObjOk X.prog X.w (upd H1 d (.xd (fz fs vs))) G' d (.xd (fz fs vs)) :=
    ⟨_, hns.at (fun o q => (gk d M.dne).trans q), fun f => fz_lookup r1 f⟩
  have J : Inv X pins σ (upd H1 d (.xd (fz fs vs))) ⟨G', g, dr, tk', os⟩ := I1.laid (t' := tk') old M.dbig ob
  refine ⟨e, oe, fv, ⟨G', g, dr, tk', os⟩, _, .ref C, some d, rfl, J, fun b o q => ?_, ge, hoe, ⟨hc, hd⟩, hdat, h1, ?_, rfl, I1.bare, raises_own T.exC T.tyC, q1 d (I1.hok.fresh M.dbig)⟩
  · by_cases hb : b = e
    · have q' : G'.get? b = some o := q
      rw [hb, ge] at q'; cases q'
    · exact (gk b hb).symm.trans q
  · rw [upd_ne (Ne.symm M.dne)]
    exact I1.hok.fresh M.new
/-- raise C(e, ..) -/
def tRaiseErr (C : Addr) (fs : List Str) (W : WX) (ta : TA) : TS := fun _ σ H => tMkErr C fs ta σ H fun cls d H' => W cls d σ H'
theorem ps_raiseE {X : Cx} {C fI : Addr} {fs : List Str} {x : Str} {a : Expr} {as : List Expr} {ta : TA} {W : WX} {p pos pos2 : Pos} {k : Nat} {qual : Str} {prm : Arguments} {body : List Stmt} {sc : Scope} (hc : X.calm = true)
    (T : ErrC X.prog X.K C fI qual prm body sc) (N : ErrInit X.prog X.w X.K X.mg C fI fs) (hm : X.mg x = some (.ref C)) (hr : Room k X.A) (hf : fs.length ≤ 1000) (tk : Takes X W) (ha : PA X (a :: as) ta) (hg : Gl X x := by rfl) (hdb : (x == ("__debug__" : Str)) = false := by decide)
    (he : starEach (a :: as) X.env = (false, eval a X.env) :: starEach as X.env := by rfl) (hpl : (backTo pos (starEach as X.env)).any (·.1) = false := by rfl) :
    PS X (.Raise (some (.Call (.Name x p) (a :: as) [] pos)) none pos2) (tRaiseErr C fs W ta) := ps_raise hc tk (pmk_err T N hm hr hf ha hg hdb he hpl)

theorem ns_off {h h' : Heap} {L : Addr} {m : Str → Option Value} (hn : h.Ns L m) (k : ∀ o, h.get? L = some o → h'.get? L = some o) : h'.Ns L m := by
  obtain ⟨oL, es, ep, hL, r⟩ := hn
  exact ⟨oL, es, ep, k _ hL, r⟩
theorem ns_lt {h : Heap} {L : Addr} {m : Str → Option Value} (hn : h.Ns L m) : L < h.objs.size := by
  obtain ⟨oL, es, ep, hL, r⟩ := hn
  exact Heap.lt_size hL
theorem ns1_ext {h : Heap} {L : Addr} {m m' : Str → Option Value} (hn : h.Ns1 L m) (e : ∀ y, m y = m' y) : h.Ns1 L m' := (funext e : m = m') ▸ hn
theorem within1 {f : Str} {v : Value} : Within (fun y => if y = f then some v else none) [f] := fun y hy => by
  by_cases e : y = f
  · rw [e]; exact List.mem_singleton.mpr rfl
  · exact absurd (if_neg e) hy
theorem within2 {f g : Str} {v u : Value} : Within (fun y => if y = g then some u else if y = f then some v else none) [g, f] := fun y hy => by
  by_cases e : y = g
  · rw [e]; exact List.mem_cons_self ..
  · by_cases e2 : y = f
    · rw [e2]; exact List.mem_cons_of_mem _ (List.mem_singleton.mpr rfl)
    · exact absurd ((if_neg e).trans (if_neg e2)) hy
theorem lkp {α : Type} (f g : Str) (y : α) (fs : List (Str × α)) : ((f, y) :: fs).lookup g = if g = f then some y else fs.lookup g := by
  by_cases h : g = f
  · subst h
    simp [List.lookup]
  · have e : (g == f) = false := by simpa using h
    rw [if_neg h]
    simp [List.lookup, e]
theorem cls_at {K : Frag} {nm q : Str} {C N : Addr} {bs bm : List Value} {sn : List Str} {sub : List Value} {ab : Bool} {col : Option Bool} {dd : Option Addr} {k0 k1 k2 k3 k5 : Option Value} (hC : K.lookup C = some (excClassObj nm q C N bs bm true sn sub ab col dd k0 k1 k2 k3 k5 "ValueError.__new__")) :
    clsIn K C = some { name := nm, bases := bs, mro := .ref C :: bm, ns := N, qualname := q, hasDict := true, slotNames := sn, subclasses := sub, abstract := ab, collection := col, hasDel := false } := by unfold clsIn; rw [hC] <;> rfl
theorem ldX {M : Model} {s : Shared} {name : Str} {scope : Scope} {L a : Addr} {cd : Value} {cl : List (Str × Addr)} {m : Str → Option Value} {x : Str} {pos : Pos} {v : Value} {Q : Value → Shared → Prop} {A : Around} {E : Value → Shared → Prop} (hn : s.heap.Ns L m) (hv : m x = some v) (h : Q v s)
    (hk : scope.kind = .function := by rfl) (hl : (envX name scope L a cd cl).kindOf x = some .local := by rfl) (hd : (x == ("__debug__" : Str)) = false := by decide) :
    wpAny M A (eval (.Name x pos) (envX name scope L a cd cl)) Q E s := wpAny_Name (wpAny_loadName_local hk hl hn hv h) hd
theorem errC_of {P : Program} {K : Frag} {C fI : Addr} {qual : Str} {prm : Arguments} {body : List Stmt} {sc : Scope} {nm q : Str} {N : Addr} {bs bm : List Value} {sn : List Str} {sub : List Value} {ab : Bool} {col : Option Bool} {dd : Option Addr} {k0 k1 k2 k3 k5 : Option Value}
    {oc : Value} {od : Option Addr} {doc pm : Value} {an : Option Addr} {cda cc : Addr} {ct : Value} {osl : Array (Option Value)} {ccl : Value} {cdd : Option Addr} {vs : Array Value} {ccs : Array (Option Value)} {file : Str} {tf : Tok} {cl : Value} {cld : Option Addr} {csl : Array (Option Value)}
    (hC : K.lookup C = some (excClassObj nm q C N bs bm true sn sub ab col dd k0 k1 k2 k3 k5 "ValueError.__new__")) (rv : PySem.HandSPX.refsVE bm = true) (su : ks_superIn K C C "__init__" = some (some (.builtin "ValueError.__init__")))
    (sa : findIn K (.ref C) "__setattr__" = some (some (.builtin "object.__setattr__"))) (iC : findIn K (.ref C) "__init__" = some (some (.ref fI))) (tI : typeIn K (.ref fI) = some (.type "function")) (exC : subIn K (.ref C) (.type "BaseException") = some true) (exV : subIn K (.ref C) (.type "ValueError") = some true)
    (mroC : mroIn K C (.ref C) = some true) (tyC : typeIn K (.ref C) = some (.type "type")) (kC : keepIn K (.ref C) = true) (op : nsIn K cStatics "thirdparty.any" = some none) (sg : nsIn K mainGlobals "super" = some none) (tp : (P.main.scope.names.lookup ("super" : Str)).isSome = false)
    (l1 : K.lookup fI = some ⟨oc, od, .func (fnX "__init__" qual prm body sc [("__class__", cc)] .none .none doc pm an (.ref cda) ct), osl⟩) (lc : codeIn K (.ref cda) qual = true) (l2 : K.lookup cda = some ⟨ccl, cdd, .fields vs, ccs⟩) (l3 : vs[2]? = some (.str file tf)) (l4 : ((P.main.file : Str) == file) = true)
    (l5 : K.lookup cc = some ⟨cl, cld, .cell (some (.ref C)), csl⟩) : ErrC P K C fI qual prm body sc := by
  have e1 := cls_at hC
  have al : alongIn K "__init__" bm = some (some (.builtin "ValueError.__init__")) := by
    unfold ks_superIn at su
    rw [e1] at su
    simpa [List.dropWhile_cons] using su
  exact { cls := ⟨nm, q, N, bs, bm, sn, sub, ab, col, dd, k0, k1, k2, k3, k5, hC, rv, al⟩, sa := sa, iC := iC, tI := tI, exC := exC, exV := exV, mroC := mroC, tyC := tyC, kC := kC, op := op, su := sg, tp := tp, fn := ⟨_, _, _, _, _, _, _, _, _, _, _, _, _, _, _, _, _, _, l1, lc, l2, l3, l4, l5⟩ }
theorem init_BadRow {prog : Program} {w : World} {K : Frag} {mg : Str → Option Value} {C fI : Addr} {a0 a1 p1 p2 p3 p4 p5 p6 q00 q01 q02 q03 : Pos} {j : Nat} {m : Str}
    (T : ErrC prog K C fI "BadRow.__init__" (prmOf [("self", a0), ("value", a1)]) [supOf m j p1 p2 p3 p4 p5 p6, stoOf "value" q00 q01 q02 q03] (scOf ["value"]))
    (hp : (p3.endLine == p5.line) = true) (n0 : findIn K (.ref C) "value" = some none) : ErrInit prog w K mg C fI ["value"] := by
  intro base A s R x t0 us M hb hx hnx hroom hl hq
  match us, hl with
  | [v1], _ =>
  obtain ⟨oc, od, doc, pm, an, cda, cc, ct, osl, ccl, cdd, vs, ccs, file, tf, cl, cld, csl, l1, lc, l2, l3, l4, l5⟩ := T.fn
  obtain ⟨nm, q, N', bs, bm, sn, sub, ab, col, dd, k0, k1, k2, k3, k5, hC, hbm, hal⟩ := T.cls
  have KX : K.In s.heap := M.kin.keeps hb
  have hcl := cls_at hC
  refine ks_codeAny_call_defAt (binds := [("self", .ref x), ("value", v1)]) hroom (KX _ _ l1) rfl (M.nolimit.keeps hb) (codeRec_of KX lc) rfl (BindsTo.of_eq (by first | rfl | with_unfolding_all rfl)) (by simp [scOf]) (by simp only [List.mem_cons, List.not_mem_nil, or_false]; rintro y (rfl | rfl) <;> rfl) (fun h1 hns hk1 => ?_)
  have hx1 := hk1 _ _ hx
  have xL : s.heap.objs.size ≠ x := Nat.ne_of_gt (Heap.lt_size hx)
  refine ks_wpAt_execs_cons (ks_wpAt_Expr_any (sup_step (mg := mg) (base := base) (sup_he hp) T M (fun b o z => hk1 b o (hb b o z)) rfl rfl rfl rfl rfl l1 l2 l3 l4 l5 hx1 hns rfl fun h2 t1 tk k2' hx2 => ?_))
  show _root_.PySem.wpAt _ _ _ (execs _ _) _ _ _
  refine wpAt_of_wpAny ?_
  have keep2 : ∀ b o, b ≠ x → s.heap.get? b = some o → h2.get? b = some o := fun b o hbx z => k2' b o hbx (hk1 b o z)
  have KX2 : K.In h2 := fun a o z => keep2 a o (fun e => by rw [e, hnx] at z; cases z) (KX a o z)
  have hns2 : h2.Ns s.heap.objs.size _ := ns_off hns (fun o z => k2' _ o xL z)
  refine wpAny_execs_cons (plainObj_wpAny_Assign_Attribute ?_)
  refine ldX (v := v1) hns2 rfl (ldX (v := .ref x) hns2 rfl ?_)
  refine set_plain KX2 (ox := PySem.HandSPX.excO C t1) (od := none) ⟨hx2, rfl, rfl, trivial⟩ T.sa ?_
  refine PySem.HandSPX.exc_osa KX2 hx2 hcl (show PySem.HandSPX.refsVE (.ref C :: bm) = true from hbm) rfl n0 (fun h3 tk3 dx k3 dn dne hx3 hn3 => ?_)
  have dge : s.heap.objs.size < dx := Nat.lt_of_lt_of_le (ns_lt hns2) dn
  have keep3 : ∀ b o, b ≠ x → s.heap.get? b = some o → h3.get? b = some o := fun b o hbx z => k3 b o hbx (keep2 b o hbx z)
  have KX3 : K.In h3 := fun a o z => keep3 a o (fun e => by rw [e, hnx] at z; cases z) (KX a o z)
  have hns3 : h3.Ns s.heap.objs.size _ := ns_off hns2 (fun o z => k3 _ o xL z)
  show wpAny _ _ (execs _ _) _ _ _
  refine wpAny_execs_nil (hq h3 tk3 dx t1 keep3 hx3 (Nat.le_of_lt dge) dne (ns1_ext hn3 fun y => ?_))
  show _ = List.lookup y [(("value" : Str), v1)]
  rw [lkp]
  rfl
end WpE
/-! Small words over the hand layer: heaps that only grow, calls of the program's own defs, methods and classes. -/
namespace Wp
open PySem L2

/-! ### heaps -/
def Ext (H H' : Hp) : Prop := ∀ a o, H a = some o → H' a = some o
theorem Ext.refl (H : Hp) : Ext H H := fun _ _ h => h
theorem Ext.trans {H H1 H2 : Hp} (a : Ext H H1) (b : Ext H1 H2) : Ext H H2 := fun x o h => b x o (a x o h)
theorem Ext.new {H H1 : Hp} {p : Addr} {o : HO} (e : Ext H H1) (h : H1 p = none) : Ext H (upd H1 p o) := fun a u q => by
  have z := e a u q
  rw [upd_ne (ne_of_none z h)]
  exact z
theorem up_new {H : Hp} {a p : Addr} {o u : HO} (hp : H p = none) (h : H a = some u) : upd H p o a = some u := by
  rw [upd_ne (ne_of_none h hp)]
  exact h
theorem up_ne {H : Hp} {a p : Addr} {o u : HO} (n : a ≠ p) (h : H a = some u) : upd H p o a = some u := by
  rw [upd_ne n]
  exact h
theorem ext_get {H H' : Hp} {a : Addr} {o : HO} (e : Ext H H') (h : H a = some o) : H' a = some o := e a o h
theorem ext_none {H H' : Hp} {a : Addr} (e : Ext H H') (h : H' a = none) : H a = none := by
  cases q : H a with
  | none => rfl
  | some o => rw [e a o q] at h; cases h
/-- an object that the first heap does not know is changed -/
theorem Ext.mut {H H1 : Hp} {p : Addr} {o : HO} (e : Ext H H1) (h : H p = none) : Ext H (upd H1 p o) := fun a u q => by
  rw [upd_ne (ne_of_none q h)]
  exact e a u q
theorem ext_rd {H H' : Hp} {a : Addr} {u : HO} (e : Ext H H') (h : Rd H a u) : Rd H' a u := by
  rcases h with h | ⟨o, h⟩
  · exact Or.inl (e a _ h)
  · exact Or.inr ⟨o, e a _ h⟩
theorem ext_sl {K : PySem.W.Frag} {H H' : Hp} {a : Addr} {xs : List V} (e : Ext H H') (h : SqL K H a xs) : SqL K H' a xs := by
  rcases h with h | h
  · exact Or.inl (ext_rd e h)
  · exact Or.inr h
theorem ext_st {K : PySem.W.Frag} {H H' : Hp} {a : Addr} {xs : List V} (e : Ext H H') (h : SqT K H a xs) : SqT K H' a xs := by
  rcases h with h | h
  · exact Or.inl (ext_rd e h)
  · exact Or.inr h
mutual
theorem ext_dp {K : PySem.W.Frag} {H H' : Hp} (e : Ext H H') : ∀ {v : V} {d : PyData}, Dp K H v d → Dp K H' v d
  | _, _, .non => .non
  | _, _, .bl b => .bl b
  | _, _, .int i => .int i
  | _, _, .str x => .str x
  | _, _, .lst h a => .lst (ext_sl e h) (ext_dps e a)
  | _, _, .tup h a => .tup (ext_st e h) (ext_dps e a)
theorem ext_dps {K : PySem.W.Frag} {H H' : Hp} (e : Ext H H') : ∀ {v : List V} {d : List PyData}, DpAll K H v d → DpAll K H' v d
  | _, _, .nil => .nil
  | _, _, .cons a r => .cons (ext_dp e a) (ext_dps e r)
end
theorem sz {n : Nat} (h : n ≤ 100000) : n ≤ sizeLine := Nat.le_trans h (by decide)
theorem szl {n : Nat} (h : n < 100000) : n < sizeLine := Nat.lt_of_lt_of_le h (by decide)

/-! ### tests -/
theorem ifd {p : Prop} [Decidable p] {A B : Prop} (h1 : p → A) (h2 : ¬ p → B) : if decide p = true then A else B := by
  by_cases h : p
  · rw [if_pos (decide_eq_true h)]; exact h1 h
  · rw [if_neg (by simpa using h)]; exact h2 h
theorem ifnd {p : Prop} [Decidable p] {A B : Prop} (h1 : ¬ p → A) (h2 : p → B) : if (!decide p) = true then A else B := by
  by_cases h : p
  · rw [if_neg (by simpa using h)]; exact h2 h
  · rw [if_pos (by simpa using h)]; exact h1 h
theorem ifb {b : Bool} {A B : Prop} (h1 : b = true → A) (h2 : b = false → B) : if b = true then A else B := by
  cases b
  · exact iteF (h2 rfl)
  · exact iteT (h1 rfl)
theorem ifT {b : Bool} {A B : Prop} (e : b = true) (h : A) : if b = true then A else B := by rw [if_pos e]; exact h
theorem ifF {b : Bool} {A B : Prop} (e : b = false) (h : B) : if b = true then A else B := by rw [if_neg (by rw [e]; decide)]; exact h

/-! ### callable things of the program -/
structure Cal (P : Program) (w : World) (K : PySem.W.Frag) (mg : Str → Option Value) (base : Heap) (k : Nat) (x : Str) (f : Addr) (sp : Sp) : Prop where
  fn : FnR P w K mg base (L2.CX P w) k f sp
  kp : PySem.W.keepIn K (.ref f) = true
  gl : mg x = some (.ref f)
structure Met (P : Program) (w : World) (K : PySem.W.Frag) (mg : Str → Option Value) (base : Heap) (k : Nat) (C : Addr) (m : Str) (f : Addr) (sp : Sp) : Prop where
  fn : FnR P w K mg base (L2.CX P w) k f sp
  mt : Meth K C m f
  cl : Cls K C
structure Mak (P : Program) (w : World) (K : PySem.W.Frag) (mg : Str → Option Value) (base : Heap) (k : Nat) (x : Str) (C f : Addr) (sp : Sp) : Prop where
  fn : FnR P w K mg base (L2.CX P w) k f sp
  mak : Mk K C f
  gl : mg x = some (.ref C)
section
variable {X : Cx} {k j : Nat} {f C : Addr} {sp : Sp} {x m : Str} {p pos apos : Pos} {e o : Expr} {es : List Expr} {ta : TE} {t : TA} {W : WX}
theorem run_at {pins : List (Addr × Obj)} {σ : L2.St} {H : Hp} {s : Shared} {Q : VK} {us : List Value} {vs : List V} (F : FnR X.prog X.w X.K X.mg X.base (L2.CX X.prog X.w) k f sp) (hr : Room k X.A) (tk : Takes X W) (I : Inv X pins σ H s) (r : Vals vs us)
    (h : sp vs H Q (WE W σ)) : codeAny (model X.prog X.w) X.A (.call (.ref f) ⟨us, []⟩) (fun r s' => match r with | .ok (.ret v) => EP X pins σ Q v s' | .ok _ => False | .error e => X.xe e s') s := by
  refine codeAny_mono (F X.A X.stack s H us vs Q (WE W σ) hr I.env0 r h) fun r s' hq => ?_
  cases r with
  | error e => exact passAt tk σ pins H s e s' I hq
  | ok fl =>
    cases fl with
    | ret u => exact I.after hq
    | next => exact False.elim hq
    | brk => exact False.elim hq
    | cont => exact False.elim hq
/-- f(e, ..) -/
theorem pc_fn (c : Cal X.prog X.w X.K X.mg X.base k x f sp) (hr : Room k X.A) (tk : Takes X W) (ha : PA X (e :: es) t) (hg : Gl X x := by rfl) (hdb : (x == ("__debug__" : Str)) = false := by decide)
    (he : starEach (e :: es) X.env = (false, eval e X.env) :: starEach es X.env := by rfl) (hpl : (backTo pos (starEach es X.env)).any (·.1) = false := by rfl) : PE X (.Call (.Name x p) (e :: es) [] pos) (tCallS sp (WE W) t) := by
  refine ⟨fun pins s σ H Q I h => ?_⟩
  refine wpAny_Call_Name_kw (ld_glob I hg c.gl ?_ hdb)
  refine PySem.W.callWith_K (h₀ := X.base) I.ok.mod.kin c.kp (thn (ha.run pos pins s σ H _ I h) fun us s1 ⟨vs, H1, I1, r, q⟩ => ⟨I1.kIn, ?_⟩) he hpl
  exact wpAny_call (run_at c.fn hr tk I1 r q)
theorem Fun.okR {P : Program} {w : World} {K : PySem.W.Frag} {mg : Str → Option Value} {base : Heap} {x qual : Str} {st : Stmt} {f : Addr} {fd : FuncData} {N ps : List Str} {k : Nat} {sp : Sp} (F : Fun K x qual st f fd) (S : FnScope N ps (defScope st)) (b : Binds K fd ps [])
    (len : ∀ vs H Q E, sp vs H Q E → vs.length = ps.length)
    (hbody : ∀ (cdv : Value) (A : Around) (outer : List Env) (s : Shared) (H : Hp) (vs : List V) (Q : VK) (E : XK), Room k (A.deeper (PyProof.Rows.envOfC qual (defScope st) s.heap.objs.size f cdv)) → sp vs H Q E →
      ∃ t, PSs (cxOf (L2.CX P w) P w K mg base N qual (defScope st) f cdv A outer s H E) (defBody st) t ∧ t { nx := fun _ H' => Q .non H', rt := Q } (start N vs) H) : FnR P w K mg base (L2.CX P w) (k + 1) f sp := by
  have G := (F.okX S len hbody).raw b .nil
  exact G.imp fun vs H Q E h => by rw [List.append_nil]; exact h
/-- f() -/
theorem pc_fn0 (c : Cal X.prog X.w X.K X.mg X.base k x f sp) (hr : Room k X.A) (tk : Takes X W) (hg : Gl X x := by rfl) (hdb : (x == ("__debug__" : Str)) = false := by decide) : PE X (.Call (.Name x p) [] [] pos) (tCallS sp (WE W) tNil) := by
  refine ⟨fun pins s σ H Q I h => wpAny_Call_Name_kw (ld_glob I hg c.gl ?_ hdb)⟩
  exact PySem.W.callWith_K0 I.kIn c.kp (wpAny_call (run_at (us := []) c.fn hr tk I .nil h))
/-- f(e, .., *y) where a star stands behind the first argument -/
theorem pc_fnS (c : Cal X.prog X.w X.K X.mg X.base k x f sp) (hr : Room k X.A) (tk : Takes X W) (ha : PA X (e :: es) t) (hg : Gl X x := by rfl) (hdb : (x == ("__debug__" : Str)) = false := by decide)
    (he : starEach (e :: es) X.env = (false, eval e X.env) :: starEach es X.env := by rfl) (hst : (backTo pos (starEach es X.env)).any (·.1) = true := by rfl) : PE X (.Call (.Name x p) (e :: es) [] pos) (tCallS sp (WE W) t) := by
  refine ⟨fun pins s σ H Q I h => wpAny_Call_Name_kw (ld_glob I hg c.gl ?_ hdb)⟩
  refine PySem.W.callWith_S2 (h₀ := X.base) I.ok.mod.kin c.kp (thn (ha.run pos pins s σ H _ I h) fun us s1 ⟨vs, H1, I1, r, q⟩ => ⟨I1.kIn, ?_⟩) he hst
  exact wpAny_call (run_at c.fn hr tk I1 r q)
/-- o.m(e, ..) : what is asked -/
def tMetS (C : Addr) (m : Str) (sp : Sp) (E : L2.St → XK) (ta : TE) (t : TA) : TE := fun σ H Q => ta σ H fun x H1 => ∃ a dx fs, x = .ref a ∧ H1 a = some (.ins C dx fs) ∧ fs.lookup m = none ∧ t σ H1 fun vs H2 => sp (x :: vs) H2 Q (E σ)
theorem pc_met {pl : Sem Bool} (he : PE X o ta) (c : Met X.prog X.w X.K X.mg X.base k C m f sp) (hr : Room k X.A) (tk : Takes X W) (ha : PA X (e :: es) t)
    (hst : starEach (e :: es) X.env = (false, eval e X.env) :: starEach es X.env := by rfl) (hpl : (backTo pos (starEach es X.env)).any (·.1) = false := by rfl)
    (ht : eval (.Call (.Attribute o m apos) (e :: es) [] pos) X.env = (do
      let ov ← eval o X.env
      standAt apos.atName
      let (f, first) ← holding [ov] (getMethod ov m pl)
      callWith pos f first (backTo pos (starEach (e :: es) X.env)) (backToKw pos (keywordEach [] X.env))) := by rfl) :
    PE X (.Call (.Attribute o m apos) (e :: es) [] pos) (tMetS C m sp (WE W) ta t) := by
  refine ⟨fun pins s σ H Q I h => ?_⟩
  refine PySem.W.methodCall_KW (pl := pl) (thn (he.run pins s σ H _ I h) fun u s1 ⟨x, H1, I1, rx, a, dx, fs, ex, ea, l, q⟩ => ?_) ht
  subst ex
  obtain rfl : u = Value.ref a := rx
  refine getmeth_ok I1 ea c.cl c.mt l (PySem.W.callWith_K (first := [.ref a]) (h₀ := X.base) I.ok.mod.kin c.mt.kp (thn (ha.run pos pins s1 σ H1 _ I1 q) fun us s2 ⟨vs, H2, I2, r, q2⟩ => ⟨I2.kIn, ?_⟩) hst hpl)
  exact wpAny_call (run_at (us := .ref a :: us) (vs := .ref a :: vs) c.fn hr tk I2 (.cons rfl r) q2)
theorem pc_met0 {pl : Sem Bool} (he : PE X o ta) (c : Met X.prog X.w X.K X.mg X.base k C m f sp) (hr : Room k X.A) (tk : Takes X W)
    (ht : eval (.Call (.Attribute o m apos) [] [] pos) X.env = (do
      let ov ← eval o X.env
      standAt apos.atName
      let (f, first) ← holding [ov] (getMethod ov m pl)
      callWith pos f first (backTo pos (starEach [] X.env)) (backToKw pos (keywordEach [] X.env))) := by rfl) :
    PE X (.Call (.Attribute o m apos) [] [] pos) (tMetS C m sp (WE W) ta tNil) := by
  refine ⟨fun pins s σ H Q I h => ?_⟩
  refine PySem.W.methodCall_KW (pl := pl) (thn (he.run pins s σ H _ I h) fun u s1 ⟨x, H1, I1, rx, a, dx, fs, ex, ea, l, q⟩ => ?_) ht
  subst ex
  obtain rfl : u = Value.ref a := rx
  exact getmeth_ok I1 ea c.cl c.mt l (PySem.W.callWith_K0 (first := [.ref a]) I1.kIn c.mt.kp (wpAny_call (run_at (us := [.ref a]) (vs := [.ref a]) c.fn hr tk I1 (.cons rfl .nil) q)))
/-- C(e, ..) : what is asked -/
def tMakS (C : Addr) (sp : Sp) (E : L2.St → XK) (t : TA) : TE := fun σ H Q => t σ H fun vs H1 => ∀ x dx, H1 x = none → H1 dx = none → dx ≠ x →
  sp (V.ref x :: vs) (upd (upd H1 dx (.own x)) x (.ins C dx [])) (fun v H2 => v = .non ∧ Q (.ref x) H2) (E σ)
theorem run_mak {pins : List (Addr × Obj)} {σ : L2.St} {H : Hp} {s : Shared} {Q : VK} {us : List Value} {vs : List V} (c : Mak X.prog X.w X.K X.mg X.base k x C f sp) (hr : Room (k + 1) X.A) (tk : Takes X W) (I : Inv X pins σ H s) (r : Vals vs us)
    (h : ∀ x dx, H x = none → H dx = none → dx ≠ x → sp (V.ref x :: vs) (upd (upd H dx (.own x)) x (.ins C dx [])) (fun v H2 => v = .non ∧ Q (.ref x) H2) (WE W σ)) :
    wpAny (model X.prog X.w) X.A (call (.ref C) us) (EP X pins σ Q) X.xe s := by
  have hq := h (s.heap.objs.size + 1) s.heap.objs.size (I.hok.fresh (Nat.le_succ _)) (I.hok.fresh (Nat.le_refl _)) (Nat.ne_of_lt (Nat.lt_succ_self _))
  have J := Inv.made (C := C) I
  have r2 : Vals (V.ref (s.heap.objs.size + 1) :: vs) (Value.ref (s.heap.objs.size + 1) :: us) := .cons rfl r
  refine wpAny_call (make_map (f := f) I.kIn c.mak.makes c.mak.init (beq_iff_eq.mp c.mak.fn) (codeAny_mono (c.fn _ X.stack _ _ (Value.ref (s.heap.objs.size + 1) :: us) _ _ (WE W σ) (hr.make C us []) (J.env0.make C us []) r2 hq) fun r s' hq' => ?_))
  cases r with
  | error e => exact passAt tk σ pins _ _ e s' J hq'
  | ok fl =>
    cases fl with
    | ret u =>
      obtain ⟨v, H', I3, rv, ev, q3⟩ := J.after hq'
      subst ev
      exact ⟨rv, ⟨V.ref (s.heap.objs.size + 1), H', I3, rfl, q3⟩⟩
    | next => exact hq'.elim
    | brk => exact hq'.elim
    | cont => exact hq'.elim
theorem pc_mak (c : Mak X.prog X.w X.K X.mg X.base k x C f sp) (hr : Room (k + 1) X.A) (tk : Takes X W) (ha : PA X (e :: es) t) (hg : Gl X x := by rfl) (hdb : (x == ("__debug__" : Str)) = false := by decide)
    (he : starEach (e :: es) X.env = (false, eval e X.env) :: starEach es X.env := by rfl) (hpl : (backTo pos (starEach es X.env)).any (·.1) = false := by rfl) : PE X (.Call (.Name x p) (e :: es) [] pos) (tMakS C sp (WE W) t) := by
  refine ⟨fun pins s σ H Q I h => wpAny_Call_Name_kw (ld_glob I hg c.gl ?_ hdb)⟩
  refine PySem.W.callWith_K (h₀ := X.base) I.ok.mod.kin c.mak.kp (thn (ha.run pos pins s σ H _ I h) fun us s1 ⟨vs, H1, I1, r, q⟩ => ⟨I1.kIn, ?_⟩) he hpl
  exact run_mak c hr tk I1 r q
theorem pc_mak0 (c : Mak X.prog X.w X.K X.mg X.base k x C f sp) (hr : Room (k + 1) X.A) (tk : Takes X W) (hg : Gl X x := by rfl) (hdb : (x == ("__debug__" : Str)) = false := by decide) : PE X (.Call (.Name x p) [] [] pos) (tMakS C sp (WE W) tNil) := by
  refine ⟨fun pins s σ H Q I h => wpAny_Call_Name_kw (ld_glob I hg c.gl ?_ hdb)⟩
  exact PySem.W.callWith_K0 I.kIn c.mak.kp (run_mak (us := []) c hr tk I .nil h)
end

/-! ### isinstance of plain data -/
inductive Vk (K : PySem.W.Frag) (H : Hp) : V → String → Prop
  | non : Vk K H .non "NoneType"
  | bl (b : Bool) : Vk K H (.bl b) "bool"
  | int (i : Int) : Vk K H (.int i) "int"
  | str (x : Str) : Vk K H (.str x) "str"
  | lst {a : Addr} {xs : List V} : SqL K H a xs → Vk K H (.ref a) "list"
  | tup {a : Addr} {xs : List V} : SqT K H a xs → Vk K H (.ref a) "tuple"
theorem Vk.ty {K : PySem.W.Frag} {H : Hp} {x : V} {t : String} (h : Vk K H x t) : TyX K H x (.type t) := by
  cases h with
  | non => exact .base .non
  | bl b => exact .base (.bl b)
  | int i => exact .base (.int i)
  | str x => exact .base (.str x)
  | lst h =>
    rcases h with (h | ⟨o, h⟩) | ⟨o, its, n, h1, h2, _⟩
    · exact .base (.lst h)
    · exact .base (.frz h)
    · exact .kList h1 h2
  | tup h =>
    rcases h with (h | ⟨o, h⟩) | ⟨o, its, n, h1, h2, _⟩
    · exact .base (.tup h)
    · exact .fTuple h
    · exact .kTuple h1 h2
theorem Vk.ext {K : PySem.W.Frag} {H H' : Hp} {x : V} {t : String} (e : Ext H H') (h : Vk K H x t) : Vk K H' x t := by
  cases h with
  | non => exact .non
  | bl b => exact .bl b
  | int i => exact .int i
  | str x => exact .str x
  | lst h => exact .lst (ext_sl e h)
  | tup h => exact .tup (ext_st e h)
theorem Vk.of {K : PySem.W.Frag} {H : Hp} {x : V} {d : PyData} (h : Dp K H x d) : ∃ t, Vk K H x t := by
  cases h with
  | non => exact ⟨_, .non⟩
  | bl b => exact ⟨_, .bl b⟩
  | int i => exact ⟨_, .int i⟩
  | str x => exact ⟨_, .str x⟩
  | lst h _ => exact ⟨_, .lst h⟩
  | tup h _ => exact ⟨_, .tup h⟩
/-- isinstance(x, c), x plain data, c a built-in class -/
def rIsV (K : PySem.W.Frag) : List V → Hp → VK → Prop := fun xs H Q => ∃ (x : V) (t c : String) (b : Bool), xs = [x, .ty c] ∧ Vk K H x t ∧ kitB t c = some b ∧ Q (.bl b) H
theorem call_isV {X : Cx} : CallR X (.builtin "isinstance") (rIsV X.K) := fun pins s σ H xs us Q I r ⟨x, t, c, b, e, k, z, q⟩ => call_isi pins s σ H xs us Q I r ⟨x, .ty c, .type t, .type c, b, e, .ty c, k.ty, kit_ty z, q⟩
def isI : V → Bool
  | .int _ => true
  | _ => false
def isB : V → Bool
  | .bl _ => true
  | _ => false
theorem vk_int {K : PySem.W.Frag} {H : Hp} {x : V} {t : String} (h : Vk K H x t) : kitB t "int" = some (isI x || isB x) := by
  cases h <;> first | rfl | decide +kernel
theorem vk_bool {K : PySem.W.Frag} {H : Hp} {x : V} {t : String} (h : Vk K H x t) : kitB t "bool" = some (isB x) := by
  cases h <;> first | rfl | decide +kernel
theorem isI_int {x : V} (h : isI x = true) : ∃ i, x = .int i := by
  cases x <;> first | exact ⟨_, rfl⟩ | cases h
theorem isB_bl {x : V} (h : isB x = true) : ∃ i, x = .bl i := by
  cases x <;> first | exact ⟨_, rfl⟩ | cases h

/-! isinstance of plain values, by kind -/
section
variable {K : PySem.W.Frag} {H : Hp} {Q : VK}
theorem is_int_int {i : Int} (k : Q (.bl true) H) : rIsV K [.int i, .ty "int"] H Q := ⟨_, _, _, _, rfl, .int _, (by decide +kernel : kitB "int" "int" = some true), k⟩
theorem is_int_bool {i : Int} (k : Q (.bl false) H) : rIsV K [.int i, .ty "bool"] H Q := ⟨_, _, _, _, rfl, .int _, (by decide +kernel : kitB "int" "bool" = some false), k⟩
theorem is_int_str {i : Int} (k : Q (.bl false) H) : rIsV K [.int i, .ty "str"] H Q := ⟨_, _, _, _, rfl, .int _, (by decide +kernel : kitB "int" "str" = some false), k⟩
theorem is_int_tuple {i : Int} (k : Q (.bl false) H) : rIsV K [.int i, .ty "tuple"] H Q := ⟨_, _, _, _, rfl, .int _, (by decide +kernel : kitB "int" "tuple" = some false), k⟩
theorem is_int_list {i : Int} (k : Q (.bl false) H) : rIsV K [.int i, .ty "list"] H Q := ⟨_, _, _, _, rfl, .int _, (by decide +kernel : kitB "int" "list" = some false), k⟩
theorem is_int_dict {i : Int} (k : Q (.bl false) H) : rIsV K [.int i, .ty "dict"] H Q := ⟨_, _, _, _, rfl, .int _, (by decide +kernel : kitB "int" "dict" = some false), k⟩
theorem is_bl_int {b : Bool} (k : Q (.bl true) H) : rIsV K [.bl b, .ty "int"] H Q := ⟨_, _, _, _, rfl, .bl _, (by decide +kernel : kitB "bool" "int" = some true), k⟩
theorem is_bl_bool {b : Bool} (k : Q (.bl true) H) : rIsV K [.bl b, .ty "bool"] H Q := ⟨_, _, _, _, rfl, .bl _, (by decide +kernel : kitB "bool" "bool" = some true), k⟩
theorem is_bl_str {b : Bool} (k : Q (.bl false) H) : rIsV K [.bl b, .ty "str"] H Q := ⟨_, _, _, _, rfl, .bl _, (by decide +kernel : kitB "bool" "str" = some false), k⟩
theorem is_bl_tuple {b : Bool} (k : Q (.bl false) H) : rIsV K [.bl b, .ty "tuple"] H Q := ⟨_, _, _, _, rfl, .bl _, (by decide +kernel : kitB "bool" "tuple" = some false), k⟩
theorem is_bl_list {b : Bool} (k : Q (.bl false) H) : rIsV K [.bl b, .ty "list"] H Q := ⟨_, _, _, _, rfl, .bl _, (by decide +kernel : kitB "bool" "list" = some false), k⟩
theorem is_bl_dict {b : Bool} (k : Q (.bl false) H) : rIsV K [.bl b, .ty "dict"] H Q := ⟨_, _, _, _, rfl, .bl _, (by decide +kernel : kitB "bool" "dict" = some false), k⟩
theorem is_str_int {z : Str} (k : Q (.bl false) H) : rIsV K [.str z, .ty "int"] H Q := ⟨_, _, _, _, rfl, .str _, (by decide +kernel : kitB "str" "int" = some false), k⟩
theorem is_str_bool {z : Str} (k : Q (.bl false) H) : rIsV K [.str z, .ty "bool"] H Q := ⟨_, _, _, _, rfl, .str _, (by decide +kernel : kitB "str" "bool" = some false), k⟩
theorem is_str_str {z : Str} (k : Q (.bl true) H) : rIsV K [.str z, .ty "str"] H Q := ⟨_, _, _, _, rfl, .str _, (by decide +kernel : kitB "str" "str" = some true), k⟩
theorem is_str_tuple {z : Str} (k : Q (.bl false) H) : rIsV K [.str z, .ty "tuple"] H Q := ⟨_, _, _, _, rfl, .str _, (by decide +kernel : kitB "str" "tuple" = some false), k⟩
theorem is_str_list {z : Str} (k : Q (.bl false) H) : rIsV K [.str z, .ty "list"] H Q := ⟨_, _, _, _, rfl, .str _, (by decide +kernel : kitB "str" "list" = some false), k⟩
theorem is_str_dict {z : Str} (k : Q (.bl false) H) : rIsV K [.str z, .ty "dict"] H Q := ⟨_, _, _, _, rfl, .str _, (by decide +kernel : kitB "str" "dict" = some false), k⟩
theorem is_non_int  (k : Q (.bl false) H) : rIsV K [.non, .ty "int"] H Q := ⟨_, _, _, _, rfl, .non, (by decide +kernel : kitB "NoneType" "int" = some false), k⟩
theorem is_non_bool  (k : Q (.bl false) H) : rIsV K [.non, .ty "bool"] H Q := ⟨_, _, _, _, rfl, .non, (by decide +kernel : kitB "NoneType" "bool" = some false), k⟩
theorem is_non_str  (k : Q (.bl false) H) : rIsV K [.non, .ty "str"] H Q := ⟨_, _, _, _, rfl, .non, (by decide +kernel : kitB "NoneType" "str" = some false), k⟩
theorem is_non_tuple  (k : Q (.bl false) H) : rIsV K [.non, .ty "tuple"] H Q := ⟨_, _, _, _, rfl, .non, (by decide +kernel : kitB "NoneType" "tuple" = some false), k⟩
theorem is_non_list  (k : Q (.bl false) H) : rIsV K [.non, .ty "list"] H Q := ⟨_, _, _, _, rfl, .non, (by decide +kernel : kitB "NoneType" "list" = some false), k⟩
theorem is_non_dict  (k : Q (.bl false) H) : rIsV K [.non, .ty "dict"] H Q := ⟨_, _, _, _, rfl, .non, (by decide +kernel : kitB "NoneType" "dict" = some false), k⟩
theorem is_tup_int {a : Addr} {xs : List V} (h : SqT K H a xs) (k : Q (.bl false) H) : rIsV K [.ref a, .ty "int"] H Q := ⟨_, _, _, _, rfl, .tup h, (by decide +kernel : kitB "tuple" "int" = some false), k⟩
theorem is_tup_bool {a : Addr} {xs : List V} (h : SqT K H a xs) (k : Q (.bl false) H) : rIsV K [.ref a, .ty "bool"] H Q := ⟨_, _, _, _, rfl, .tup h, (by decide +kernel : kitB "tuple" "bool" = some false), k⟩
theorem is_tup_str {a : Addr} {xs : List V} (h : SqT K H a xs) (k : Q (.bl false) H) : rIsV K [.ref a, .ty "str"] H Q := ⟨_, _, _, _, rfl, .tup h, (by decide +kernel : kitB "tuple" "str" = some false), k⟩
theorem is_tup_tuple {a : Addr} {xs : List V} (h : SqT K H a xs) (k : Q (.bl true) H) : rIsV K [.ref a, .ty "tuple"] H Q := ⟨_, _, _, _, rfl, .tup h, (by decide +kernel : kitB "tuple" "tuple" = some true), k⟩
theorem is_tup_list {a : Addr} {xs : List V} (h : SqT K H a xs) (k : Q (.bl false) H) : rIsV K [.ref a, .ty "list"] H Q := ⟨_, _, _, _, rfl, .tup h, (by decide +kernel : kitB "tuple" "list" = some false), k⟩
theorem is_tup_dict {a : Addr} {xs : List V} (h : SqT K H a xs) (k : Q (.bl false) H) : rIsV K [.ref a, .ty "dict"] H Q := ⟨_, _, _, _, rfl, .tup h, (by decide +kernel : kitB "tuple" "dict" = some false), k⟩
theorem is_lst_int {a : Addr} {xs : List V} (h : SqL K H a xs) (k : Q (.bl false) H) : rIsV K [.ref a, .ty "int"] H Q := ⟨_, _, _, _, rfl, .lst h, (by decide +kernel : kitB "list" "int" = some false), k⟩
theorem is_lst_bool {a : Addr} {xs : List V} (h : SqL K H a xs) (k : Q (.bl false) H) : rIsV K [.ref a, .ty "bool"] H Q := ⟨_, _, _, _, rfl, .lst h, (by decide +kernel : kitB "list" "bool" = some false), k⟩
theorem is_lst_str {a : Addr} {xs : List V} (h : SqL K H a xs) (k : Q (.bl false) H) : rIsV K [.ref a, .ty "str"] H Q := ⟨_, _, _, _, rfl, .lst h, (by decide +kernel : kitB "list" "str" = some false), k⟩
theorem is_lst_tuple {a : Addr} {xs : List V} (h : SqL K H a xs) (k : Q (.bl false) H) : rIsV K [.ref a, .ty "tuple"] H Q := ⟨_, _, _, _, rfl, .lst h, (by decide +kernel : kitB "list" "tuple" = some false), k⟩
theorem is_lst_list {a : Addr} {xs : List V} (h : SqL K H a xs) (k : Q (.bl true) H) : rIsV K [.ref a, .ty "list"] H Q := ⟨_, _, _, _, rfl, .lst h, (by decide +kernel : kitB "list" "list" = some true), k⟩
theorem is_lst_dict {a : Addr} {xs : List V} (h : SqL K H a xs) (k : Q (.bl false) H) : rIsV K [.ref a, .ty "dict"] H Q := ⟨_, _, _, _, rfl, .lst h, (by decide +kernel : kitB "list" "dict" = some false), k⟩
end

/-! ### isinstance of a caught error (at a; its class cls, its own dict d) -/
def rIsX (K : PySem.W.Frag) (a : Addr) (cls : Value) (d : Option Addr) (C : Addr) : List V → Hp → VK → Prop := fun xs H Q => ∃ (c : V) (u : Value) (b : Bool), xs = [.ref a, c] ∧ ClsV c u ∧ cls = .ref C ∧ (∃ dd fs, d = some dd ∧ H dd = some (.xd fs)) ∧ PySem.W.kitOne K (.ref C) u = some b ∧ Q (.bl b) H
theorem call_isXc {X : Cx} {a C : Addr} {oe : Obj} {cls : Value} {d : Option Addr} {pn : List (Addr × Obj)} (T : ExcC X.K C) (hz : Zc cls d oe) (hf : ∃ vs, oe.data = .fields vs) : CallR (X.suite a ((a, oe) :: pn)) (.builtin "isinstance") (rIsX X.K a cls d C) := by
  intro pins s σ H xs us Q I r h
  obtain ⟨c, u, b, rfl, k, ec, ⟨dd, fs, ed, ea⟩, e, q⟩ := h
  obtain ⟨u1, u2, rfl, r1, r2⟩ := vals2 r
  have e2 := k.eq r2
  subst e2
  obtain rfl : u1 = Value.ref a := r1
  subst ec ed
  obtain ⟨ha, _⟩ := I.pin (a, oe) (List.mem_append_left _ List.mem_cons_self)
  obtain ⟨fv, hd⟩ := hf
  have hx : ObjOk X.prog X.w H s.heap dd (.xd fs) := I.hok dd _ ea
  obtain ⟨mA, hns, hr⟩ := hx
  obtain ⟨od, ho, hl⟩ := lookIn_ns hns
  have J : PySem.W.InstAt s.heap a oe C (some od) := ⟨ha, hz.1, by unfold PySem.W.notCls; rw [hd] <;> rfl, by rw [hz.2]; exact ho⟩
  have hcl : (PySem.W.clsIn X.K C).isSome = true := by
    obtain ⟨cd, hc, _⟩ := PySem.W.any_some T.hd
    rw [hc]; rfl
  exact PySem.W.kia_one (PySem.W.kitx_exc hcl T.hg T.hk T.hs T.ha T.hn T.ht T.hm) I.kIn J e (fun z => nomatch z) fun tk => ⟨.bl b, H, I.tok tk, rfl, q⟩

/-! ### built-in functions, by names -/
def rInt1 : List V → Hp → VK → Prop := fun xs H Q => (∃ i, xs = [.int i] ∧ Q (.int i) H) ∨ ∃ k, xs = [.bl k] ∧ Q (.int (if k then 1 else 0)) H
theorem w_int {X : Cx} : CallR X (.type "int") rInt1 := call_int1
def rAbs : List V → Hp → VK → Prop := fun xs H Q => ∃ i, xs = [.int i] ∧ Q (.int (if i < 0 then -i else i)) H
theorem w_abs {X : Cx} : CallR X (.builtin "abs") rAbs := call_abs
def rLenQ (K : PySem.W.Frag) : List V → Hp → VK → Prop := fun xs H Q => ∃ p ys, xs = [.ref p] ∧ (SqL K H p ys ∨ SqT K H p ys) ∧ Q (.int ys.length) H
theorem w_len {X : Cx} : CallR X (.builtin "len") (rLenQ X.K) := call_len_seq
def rLenZ : List V → Hp → VK → Prop := fun xs H Q => ∃ z, xs = [.str z] ∧ z.length ≤ sizeLine ∧ Q (.int z.length) H
theorem w_lenZ {X : Cx} : CallR X (.builtin "len") rLenZ := call_len_str
def rMin2 : List V → Hp → VK → Prop := fun xs H Q => ∃ i j, xs = [.int i, .int j] ∧ Q (.int (if j < i then j else i)) H
def rMax2 : List V → Hp → VK → Prop := fun xs H Q => ∃ i j, xs = [.int i, .int j] ∧ Q (.int (if j > i then j else i)) H
theorem w_min2 {X : Cx} (hc : X.calm = true) : CallR X (.builtin "min") rMin2 := call_min2 hc
theorem w_max2 {X : Cx} (hc : X.calm = true) : CallR X (.builtin "max") rMax2 := call_max2 hc
def rListOf (K : PySem.W.Frag) : List V → Hp → VK → Prop := fun xs H Q => ∃ p ys, xs = [.ref p] ∧ (SqL K H p ys ∨ SqT K H p ys) ∧ ∀ l, H l = none → Q (.ref l) (upd H l (.lst ys))
theorem w_list {X : Cx} : CallR X (.type "list") (rListOf X.K) := call_list_of
def rTupOf (K : PySem.W.Frag) : List V → Hp → VK → Prop := fun xs H Q => ∃ p ys, xs = [.ref p] ∧ ((SqL K H p ys ∧ ∀ l, H l = none → Q (.ref l) (upd H l (.tup ys))) ∨ (SqT K H p ys ∧ Q (.ref p) H))
theorem w_tuple {X : Cx} : CallR X (.type "tuple") (rTupOf X.K) := call_tuple_of
def rStrI : List V → Hp → VK → Prop := fun xs H Q => ∃ i, xs = [.int i] ∧ i.natAbs.log2 < 1920 ∧ Q (.str (toString i)) H
theorem w_str {X : Cx} : CallR X (.type "str") rStrI := call_str_int

/-! ### readings, from the front: what must be shown for each construct -/
def Nx (N : L2.St → Hp → Prop) (s2 : TS) (D : Ends) : Prop := ∀ σ H, s2 D σ H → N σ H
def NewT (xs : List V) (H : Hp) (Q : VK) : Prop := xs.length ≤ sizeLine ∧ ∀ p, H p = none → Q (.ref p) (upd H p (.tup xs))
def NewL (xs : List V) (H : Hp) (Q : VK) : Prop := xs.length ≤ sizeLine ∧ ∀ p, H p = none → Q (.ref p) (upd H p (.lst xs))
section
variable {K : PySem.W.Frag} {σ : L2.St} {H : Hp} {Q : VK} {QB : Bool → Hp → Prop} {QL : List V → Hp → Prop} {QO : Option Int → Hp → Prop} {D : Ends} {i j : Nat} {v x y : V} {ta tb te tv td : TE} {t u : TT} {tr : TA} {r : R2} {tl th : TO} {a b n m : Int} {p l : Addr} {xs ys vs : List V} {s1 s2 : TS} {g : TG} {f : Str} {C dx : Addr} {fs : List (Str × V)}
theorem i_var (h : σ[i]? = some (some v)) (k : Q v H) : tVar i σ H Q := ⟨v, h, k⟩
theorem i_c (k : Q v H) : tC v σ H Q := k
theorem i_op (k : ta σ H fun x H1 => tb σ H1 fun y H2 => r x y H2 Q) : tOp r ta tb σ H Q := k
theorem i_un {r : V → Hp → VK → Prop} (k : ta σ H fun x H1 => r x H1 Q) : tUn r ta σ H Q := k
theorem i_U {g : Int → V} (k : Q (g a) H) : rU g (.int a) H Q := ⟨a, rfl, k⟩
theorem i_I0 {g : Int → Int → V} (k : Q (g a b) H) : rI0 g (.int a) (.int b) H Q := ⟨a, b, rfl, rfl, k⟩
theorem i_I {g : Int → Int → V} {C : Int → Int → Prop} (c : C a b) (k : Q (g a b) H) : rI C g (.int a) (.int b) H Q := ⟨a, b, rfl, rfl, c, k⟩
theorem i_cmp {p : Int → Int → Bool} (k : ta σ H fun x H1 => tb σ H1 fun y H2 => ∃ i j, x = .int i ∧ y = .int j ∧ Q (.bl (p i j)) H2) : tCmp p ta tb σ H Q := k
theorem i_II {P : Int → Int → Prop} (k : P a b) : ∃ i j, V.int a = .int i ∧ V.int b = .int j ∧ P i j := ⟨a, b, rfl, rfl, k⟩
theorem i_isN (k : ta σ H fun x H1 => Q (.bl (decide (x = .non))) H1) : tIsN ta σ H Q := k
theorem i_notN (k : ta σ H fun x H1 => Q (.bl (!decide (x = .non))) H1) : tNotN ta σ H Q := k
theorem i_B (k : te σ H fun x H1 => ∃ c, x = .bl c ∧ QB c H1) : tB te σ H QB := k
theorem i_test (k : te σ H fun x H1 => ∃ c, x = .bl c ∧ QB c H1) : tTest te σ H QB := k
theorem i_bl {c : Bool} {P : Bool → Prop} (k : P c) : ∃ c', V.bl c = .bl c' ∧ P c' := ⟨c, rfl, k⟩
theorem i_and (k : t σ H fun c H1 => if c = true then u σ H1 QB else QB false H1) : tAnd t u σ H QB := k
theorem i_or (k : t σ H fun c H1 => if c = true then QB true H1 else u σ H1 QB) : tOr t u σ H QB := k
theorem i_not (k : t σ H fun c H1 => QB (!c) H1) : tNot t σ H QB := k
theorem i_andV (k : ta σ H fun x H1 => ∃ c, x = .bl c ∧ if c = true then tb σ H1 Q else Q (.bl false) H1) : tAndV ta tb σ H Q := k
theorem i_orV (k : ta σ H fun x H1 => ∃ c, x = .bl c ∧ if c = true then Q (.bl true) H1 else tb σ H1 Q) : tOrV ta tb σ H Q := k
theorem i_notV (k : ta σ H fun x H1 => ∃ c, x = .bl c ∧ Q (.bl (!c)) H1) : tNotV ta σ H Q := k
theorem i_if (k : t σ H fun c H1 => if c = true then ta σ H1 Q else tb σ H1 Q) : tIf t ta tb σ H Q := k
theorem i_chain {r' : R2} {tc : TE} (k : ta σ H fun x H1 => tb σ H1 fun y H2 => r x y H2 fun z H3 => ∃ c, z = .bl c ∧ (if c = true then tc σ H3 fun w' H4 => r' y w' H4 Q else Q (.bl false) H3)) : tChain r r' ta tb tc σ H Q := k
theorem i_nil (k : QL [] H) : tNil σ H QL := k
theorem i_cons (k : ta σ H fun x H1 => tr σ H1 fun xs H2 => QL (x :: xs) H2) : tCons ta tr σ H QL := k
theorem i_tup (k : tr σ H fun xs H1 => NewT xs H1 Q) : tTup tr σ H Q := k
theorem i_lst (k : tr σ H fun xs H1 => NewL xs H1 Q) : tLst tr σ H Q := k
theorem i_newT (h : xs.length ≤ 1000) (k : ∀ p H2, H p = none → Ext H H2 → H2 p = some (.tup xs) → Q (.ref p) H2) : NewT xs H Q := ⟨sz (Nat.le_trans h (by decide)), fun p np => k p _ np (Ext.new (Ext.refl _) np) upd_same⟩
theorem i_newL (h : xs.length ≤ 1000) (k : ∀ p H2, H p = none → Ext H H2 → H2 p = some (.lst xs) → Q (.ref p) H2) : NewL xs H Q := ⟨sz (Nat.le_trans h (by decide)), fun p np => k p _ np (Ext.new (Ext.refl _) np) upd_same⟩
theorem i_call {sp : Sp} {E : L2.St → XK} (k : tr σ H fun vs H1 => sp vs H1 Q (E σ)) : tCallS sp E tr σ H Q := k
theorem i_cb {r : List V → Hp → VK → Prop} (k : tr σ H fun vs H1 => r vs H1 Q) : tCB r tr σ H Q := k
theorem i_met {sp : Sp} {E : L2.St → XK} (k : ta σ H fun x H1 => ∃ a dx fs, x = .ref a ∧ H1 a = some (.ins C dx fs) ∧ fs.lookup f = none ∧ tr σ H1 fun vs H2 => sp (x :: vs) H2 Q (E σ)) : tMetS C f sp E ta tr σ H Q := k
theorem i_mak {sp : Sp} {E : L2.St → XK} (k : tr σ H fun vs H1 => ∀ x dx, H1 x = none → H1 dx = none → dx ≠ x → sp (V.ref x :: vs) (upd (upd H1 dx (.own x)) x (.ins C dx [])) (fun v H2 => v = .non ∧ Q (.ref x) H2) (E σ)) : tMakS C sp E tr σ H Q := k
theorem i_fld (k : ta σ H fun x H1 => ∃ a C dx fs v, x = .ref a ∧ H1 a = some (.ins C dx fs) ∧ Cls K C ∧ NoAttr K C f ∧ fs.lookup f = some v ∧ Q v H1) : tFld K ta f σ H Q := k
theorem i_sl {r : V → Option Int → Option Int → Hp → VK → Prop} (k : te σ H fun x H1 => tl σ H1 fun l H2 => th σ H2 fun u H3 => r x l u H3 Q) : tSl r te tl th σ H Q := k
theorem i_noPart (k : QO none H) : tNoPart σ H QO := k
theorem i_part (k : te σ H fun x H1 => ∃ i, x = .int i ∧ QO (some i) H1) : tPart te σ H QO := k
theorem i_1I {P : Int → Prop} (k : P a) : ∃ i, V.int a = .int i ∧ P i := ⟨a, rfl, k⟩
theorem i_bm {r : V → List V → Hp → VK → Prop} {T : String} (k : ta σ H fun x H1 => tyV K T x H1 ∧ tr σ H1 fun xs H2 => r x xs H2 Q) : tBM K T r ta tr σ H Q := k
theorem i_bm0 {r : V → List V → Hp → VK → Prop} {T : String} (k : ta σ H fun x H1 => tyV K T x H1 ∧ r x [] H1 Q) : tBM0 K T r ta σ H Q := k
theorem i_seq (k : s1 { D with nx := s2 D } σ H) : tSeq s1 s2 D σ H := k
/-- what follows is a letter -/
theorem i_seqN (k : ∀ N : L2.St → Hp → Prop, Nx N s2 D → s1 { D with nx := N } σ H) : tSeq s1 s2 D σ H := k _ (fun _ _ h => h)
theorem go_nx {N : L2.St → Hp → Prop} (h : Nx N s2 D) (k : s2 D σ H) : N σ H := h σ H k
theorem i_next (k : D.nx σ H) : tNext D σ H := k
theorem i_brk (k : D.bk σ H) : tBreak D σ H := k
theorem i_cont (k : D.ct σ H) : tCont D σ H := k
theorem i_drop (k : te σ H fun _ H1 => D.nx σ H1) : tDrop te D σ H := k
theorem i_ret (k : te σ H D.rt) : tRet te D σ H := k
theorem i_retN (k : D.rt .non H) : tRetN D σ H := k
theorem i_ifS (k : t σ H fun b H1 => if b = true then s1 D σ H1 else s2 D σ H1) : tIfS t s1 s2 D σ H := k
theorem i_asg (k : te σ H fun x H1 => g x σ H1 D.nx) : tAsg te g D σ H := k
theorem i_name {Qs : L2.St → Hp → Prop} (k : Qs (σ.set i (some v)) H) : gName i v σ H Qs := k
theorem i_gsub {Qs : L2.St → Hp → Prop} {ts : TSet} (k : ta σ H fun o H1 => tb σ H1 fun i H2 => ts o i v H2 fun H3 => Qs σ H3) : gSub ta tb ts v σ H Qs := k
theorem i_par (k : tr σ H fun vs H1 => ∃ v w, vs = [v, w] ∧ D.nx ((σ.set i (some v)).set j (some w)) H1) : tPar i j tr D σ H := k
theorem i_par2 {P : V → V → Prop} (k : P x y) : ∃ v w, [x, y] = [v, w] ∧ P v w := ⟨x, y, rfl, k⟩
theorem i_aug {ti : TIp} (h : σ[i]? = some (some x)) (k : te σ H fun y H1 => ti x y H1 fun z H2 => D.nx (σ.set i (some z)) H2) : tAug i te ti D σ H := ⟨x, h, k⟩
theorem i_ipI {f : Int → Int → Int} (k : Q (.int (f a b)) H) : ipI f (.int a) (.int b) H Q := ⟨a, b, rfl, rfl, k⟩
theorem i_sfld (k : tv σ H fun y H1 => ta σ H1 fun x H2 => ∃ a C dx fs, x = .ref a ∧ H2 a = some (.ins C dx fs) ∧ Cls K C ∧ NoAttr K C f ∧ fs.length < 1000 ∧ D.nx σ (upd H2 a (.ins C dx (putF f y fs)))) : sFld K ta tv f D σ H := k
theorem i_eqD {d e : PyData} (h1 : Dp K H x d) (h2 : Dp K H y e) (s1 : SeqAt.shaped d = true) (s2 : SeqAt.shaped e = true) (k : Q (.bl (PyData.eqv d e)) H) : rEqD K x y H Q := ⟨d, e, h1, h2, s1, s2, k⟩
theorem i_neD {d e : PyData} (h1 : Dp K H x d) (h2 : Dp K H y e) (s1 : SeqAt.shaped d = true) (s2 : SeqAt.shaped e = true) (k : Q (.bl (!PyData.eqv d e)) H) : rNeD K x y H Q := ⟨d, e, h1, h2, s1, s2, k⟩
theorem i_eq (h : scal x y = true) (k : Q (.bl (decide (x = y))) H) : rEq x y H Q := ⟨h, k⟩
theorem i_ne (h : scal x y = true) (k : Q (.bl (!decide (x = y))) H) : rNe x y H Q := ⟨h, k⟩
theorem i_ixL (h : SqL K H p xs) (e : atI xs a = some v) (k : Q v H) : rIxL K (.ref p) (.int a) H Q := ⟨p, xs, a, v, rfl, rfl, h, e, k⟩
theorem i_ixT (h : SqT K H p xs) (e : atI xs a = some v) (k : Q v H) : rIxT K (.ref p) (.int a) H Q := ⟨p, xs, a, v, rfl, rfl, h, e, k⟩
theorem i_isV {t c : String} {b : Bool} (h : Vk K H x t) (e : kitB t c = some b) (k : Q (.bl b) H) : rIsV K [x, .ty c] H Q := ⟨x, t, c, b, rfl, h, e, k⟩
theorem i_append (h : H l = some (.lst xs)) (z : xs.length < sizeLine) (k : Q .non (upd H l (.lst (xs ++ [v])))) : rAppend (.ref l) [v] H Q := ⟨l, xs, v, rfl, rfl, h, z, k⟩
theorem i_setL {Qh : Hp → Prop} (h : H p = some (.lst xs)) (e : ixN xs.length a = some j) (k : Qh (upd H p (.lst (xs.set j v)))) : rSetL (.ref p) (.int a) v H Qh := ⟨p, xs, a, j, rfl, rfl, h, e, k⟩
theorem i_int (k : Q (.int a) H) : rInt1 [.int a] H Q := .inl ⟨a, rfl, k⟩
theorem i_intB {c : Bool} (k : Q (.int (if c then 1 else 0)) H) : rInt1 [.bl c] H Q := .inr ⟨c, rfl, k⟩
theorem i_abs (k : Q (.int (if a < 0 then -a else a)) H) : rAbs [.int a] H Q := ⟨a, rfl, k⟩
theorem i_lenL (h : SqL K H p xs) (k : Q (.int xs.length) H) : rLenQ K [.ref p] H Q := ⟨p, xs, rfl, .inl h, k⟩
theorem i_lenT (h : SqT K H p xs) (k : Q (.int xs.length) H) : rLenQ K [.ref p] H Q := ⟨p, xs, rfl, .inr h, k⟩
theorem i_lenZ {z : Str} (h : z.length ≤ sizeLine) (k : Q (.int z.length) H) : rLenZ [.str z] H Q := ⟨z, rfl, h, k⟩
theorem i_min2 (k : Q (.int (if b < a then b else a)) H) : rMin2 [.int a, .int b] H Q := ⟨a, b, rfl, k⟩
theorem i_max2 (k : Q (.int (if b > a then b else a)) H) : rMax2 [.int a, .int b] H Q := ⟨a, b, rfl, k⟩
theorem i_listL (h : SqL K H p xs) (k : ∀ l H2, H l = none → Ext H H2 → H2 l = some (.lst xs) → Q (.ref l) H2) : rListOf K [.ref p] H Q := ⟨p, xs, rfl, .inl h, fun l n => k l _ n (Ext.new (Ext.refl _) n) upd_same⟩
theorem i_listT (h : SqT K H p xs) (k : ∀ l H2, H l = none → Ext H H2 → H2 l = some (.lst xs) → Q (.ref l) H2) : rListOf K [.ref p] H Q := ⟨p, xs, rfl, .inr h, fun l n => k l _ n (Ext.new (Ext.refl _) n) upd_same⟩
theorem i_tupL (h : SqL K H p xs) (k : ∀ l H2, H l = none → Ext H H2 → H2 l = some (.tup xs) → Q (.ref l) H2) : rTupOf K [.ref p] H Q := ⟨p, xs, rfl, .inl ⟨h, fun l n => k l _ n (Ext.new (Ext.refl _) n) upd_same⟩⟩
theorem i_tupT (h : SqT K H p xs) (k : Q (.ref p) H) : rTupOf K [.ref p] H Q := ⟨p, xs, rfl, .inr ⟨h, k⟩⟩
theorem i_size {P : Prop} {zs : List V} (h : zs.length ≤ 1000) (k : P) : zs.length ≤ sizeLine ∧ P := ⟨sz (Nat.le_trans h (by decide)), k⟩
theorem i_wipe {s t : L2.St} {P : Prop} (h : s = t) (k : P) : s = t ∧ P := ⟨h, k⟩
theorem i_yes (k : QB true H) : tYes σ H QB := k
theorem i_xf {a : Addr} {d : Option Addr} {cls : Value} (k : te σ H fun x H1 => x = .ref a ∧ cls = .ref C ∧ ∃ (dd : Addr) (fs : List (Str × V)) (v : V), d = some dd ∧ H1 dd = some (.xd fs) ∧ fs.lookup f = some v ∧ Q v H1) : tXf a cls d C f te σ H Q := k
theorem i_isXr {a C C2 d : Addr} {fs : List (Str × V)} {b : Bool} (h : H d = some (.xd fs)) (e : PySem.W.kitOne K (.ref C) (.ref C2) = some b) (k : Q (.bl b) H) : rIsX K a (.ref C) (some d) C [.ref a, .ref C2] H Q := ⟨.ref C2, .ref C2, b, rfl, .own C2, rfl, ⟨d, fs, rfl, h⟩, e, k⟩
theorem i_isXt {a C d : Addr} {fs : List (Str × V)} {b : Bool} {c : String} (h : H d = some (.xd fs)) (e : PySem.W.kitOne K (.ref C) (.type c) = some b) (k : Q (.bl b) H) : rIsX K a (.ref C) (some d) C [.ref a, .ty c] H Q := ⟨.ty c, .type c, b, rfl, .ty c, rfl, ⟨d, fs, rfl, h⟩, e, k⟩
theorem i_xfv {a d : Addr} {fs : List (Str × V)} {v : V} {Q : V → Prop} {C : Addr} (h : H d = some (.xd fs)) (e : fs.lookup f = some v) (k : Q v) : V.ref a = .ref a ∧ Value.ref C = .ref C ∧ ∃ (dd : Addr) (fs : List (Str × V)) (v : V), some d = some dd ∧ H dd = some (.xd fs) ∧ fs.lookup f = some v ∧ Q v := ⟨rfl, rfl, d, fs, v, rfl, h, e, k⟩
theorem tyL (h : H p = some (.lst xs)) : tyV K "list" (.ref p) H := .inl ⟨rfl, _, SqL.of h⟩
theorem i_raiseE {C : Addr} {fs : List Str} {W : WX} (k : tr σ H fun vs H1 => vs.length = fs.length ∧ ∀ d, H1 d = none → W (.ref C) (some d) σ (upd H1 d (.xd (WpE.fz fs vs)))) : WpE.tRaiseErr C fs W tr D σ H := k
end
theorem atI_nat {α : Type} {xs : List α} {n : Nat} {v : α} (h : xs[n]? = some v) : atI xs (n : Int) = some v := by
  have hl : n < xs.length := (List.getElem?_eq_some_iff.mp h).1
  unfold atI ixN
  rw [if_pos (by omega), if_pos (by omega)]
  simpa using h

theorem lk_hit {α : Type} {f : Str} {y : α} {fs : List (Str × α)} : ((f, y) :: fs).lookup f = some y := by simp [List.lookup]
theorem lk_miss {α : Type} {f g : Str} {y : α} {fs : List (Str × α)} {r : Option α} (h : (g == f) = false) (k : fs.lookup g = r) : ((f, y) :: fs).lookup g = r := by
  rw [List.lookup_cons, h]
  exact k
theorem lk_nil {α : Type} {g : Str} : ([] : List (Str × α)).lookup g = none := rfl
theorem at_hd {α : Type} {x : α} {xs : List α} : atI (x :: xs) 0 = some x := atI_nat (n := 0) rfl
theorem at_in {α : Type} {xs : List α} {i : Int} (h0 : 0 ≤ i) (h1 : i < xs.length) : ∃ v, atI xs i = some v ∧ xs[i.toNat]? = some v := by
  have hl : i.toNat < xs.length := by omega
  obtain ⟨v, e⟩ : ∃ v, xs[i.toNat]? = some v := ⟨_, List.getElem?_eq_getElem hl⟩
  refine ⟨v, ?_, e⟩
  have z := atI_nat e
  rwa [Int.toNat_of_nonneg h0] at z
theorem at_ints {ns : List Int} {i : Int} (h0 : 0 ≤ i) (h1 : i < ns.length) : ∃ z, atI (ns.map V.int) i = some (.int z) ∧ z ∈ ns := by
  obtain ⟨v, e, g⟩ := at_in (xs := ns.map V.int) h0 (by simpa using h1)
  rw [List.getElem?_map] at g
  cases q : ns[i.toNat]? with
  | none => rw [q] at g; cases g
  | some z =>
    rw [q] at g
    cases g
    exact ⟨z, e, List.mem_of_getElem? q⟩

/-! ### the state of a law's draws: a list of four ints, of which nothing more is said -/
def St4 (st : Addr) (h : Heap) : Prop := ∃ (a b c d : Int) (its : List Value) (n : Nat), Vals [.int a, .int b, .int c, .int d] its ∧ h.get? st = some ({ cls := .type "list", data := .seq its.toArray n } : Obj)
def StO (st : Addr) : HO := .ext (St4 st)
section
variable {P : Program} {w : World} {H : Hp} {h : Heap} {st : Addr}
theorem st_ok {a b c d : Int} (o : ObjOk P w H h st (.lst [.int a, .int b, .int c, .int d])) {H' : Hp} : ObjOk P w H' h st (StO st) := by
  obtain ⟨_, its, n, r, e⟩ := o
  exact ⟨⟨a, b, c, d, its, n, r, e⟩, ⟨_, e⟩, fun h1 h2 ⟨a, b, c, d, its, n, r, e⟩ k => ⟨a, b, c, d, its, n, r, k _ e⟩⟩
theorem st_at (hok : HOk P w H h) (e : H st = some (StO st)) : St4 st h := (hok st _ e).1
theorem upd_back {o : HO} (e : H st = some o) (u : HO) : upd (upd H st u) st o = H := by
  funext b
  by_cases hb : b = st
  · rw [hb, upd_same, e]
  · rw [upd_ne hb, upd_ne hb]
/-- one object told in another way -/
theorem hok_as {o u : HO} (hok : HOk P w H h) (e : H st = some o) (no : ∀ x, o ≠ .own x) (nt : ∀ xs, o ≠ .tup xs) (new : ObjOk P w (upd H st u) h st u) : HOk P w (upd H st u) h := fun b v q => by
  by_cases hb : b = st
  · subst hb
    rw [upd_same] at q
    cases q
    exact new
  · rw [upd_ne hb] at q
    refine (hok b v q).stay (fun _ _ _ z => z) (fun c z => ?_) (fun c xs z => ?_)
    · rw [upd_ne (ne_of z e fun y => no _ y.symm)]; exact z
    · rw [upd_ne (ne_of z e fun y => nt _ y.symm)]; exact z
theorem st_open (hok : HOk P w H h) (e : H st = some (StO st)) : ∃ a b c d, HOk P w (upd H st (.lst [.int a, .int b, .int c, .int d])) h := by
  obtain ⟨a, b, c, d, its, n, r, g⟩ := st_at hok e
  exact ⟨a, b, c, d, hok_as hok e (fun _ => nofun) (fun _ => nofun) ⟨by show 4 ≤ sizeLine; decide, its, n, r, g⟩⟩
end
/-- _law_draw upon its list of four ints -/
def spDrawL (K : PySem.W.Frag) : Sp := fun vs H Q _ => ∃ (a st : Addr) (ns : List Int) (n x0 x1 x2 x3 : Int), vs = [.ref a, .ref st, .int n] ∧ (∀ o, SqL K (upd H st o) a (ns.map V.int)) ∧ ns.length ≤ 63 ∧ H st = some (.lst [.int x0, .int x1, .int x2, .int x3]) ∧ 0 < n ∧ n < 1073741824 ∧
  ∀ r y0 y1 y2 y3 : Int, 0 ≤ r → r < n → Q (.int r) (upd H st (.lst [.int y0, .int y1, .int y2, .int y3]))
/-- _law_draw: some number from 0 to below the limit; nothing that is known changes -/
def spDraw (K : PySem.W.Frag) : Sp := fun vs H Q _ => ∃ (a st : Addr) (ns : List Int) (n : Int), vs = [.ref a, .ref st, .int n] ∧ SqL K H a (ns.map V.int) ∧ ns.length ≤ 63 ∧ H st = some (StO st) ∧ 0 < n ∧ n < 1073741824 ∧ ∀ r : Int, 0 ≤ r → r < n → Q (.int r) H
theorem i_draw {K : PySem.W.Frag} {H : Hp} {Q : VK} {E : XK} {a st : Addr} {ns : List Int} {n : Int} (hS : SqL K H a (ns.map V.int)) (hl : ns.length ≤ 63) (hst : H st = some (StO st)) (n0 : 0 < n) (n1 : n < 1073741824) (k : ∀ r : Int, 0 ≤ r → r < n → Q (.int r) H) : spDraw K [.ref a, .ref st, .int n] H Q E := ⟨a, st, ns, n, rfl, hS, hl, hst, n0, n1, k⟩
theorem cx_false {P : Program} {w : World} {outer : List Env} {H : Hp} {s : Shared} {u : Value} {s' : Shared} (h : L2.CX P w outer H s (fun _ _ _ => False) u s') : False := by
  obtain ⟨_, _, _, _, _, _, _, _, _, _, _, _, z⟩ := h
  exact z
theorem draw_abs {P : Program} {w : World} {K : PySem.W.Frag} {mg : Str → Option Value} {base : Heap} {k : Nat} {f : Addr} (F : FnR P w K mg base (L2.CX P w) k f (spDrawL K)) : FnR P w K mg base (L2.CX P w) k f (spDraw K) := by
  intro A outer s H us vs Q E hr e0 r h
  obtain ⟨a, st, ns, n, rfl, hS, hl, hst, n0, n1, hq⟩ := h
  obtain ⟨x0, x1, x2, x3, hok1⟩ := st_open e0.hok hst
  have nst : ∀ {b : Addr}, H b = none → b ≠ st := fun {b} z => (ne_of_none hst z).symm
  have up : ∀ {b : Addr} {o : HO}, H b = none → upd H st o b = none := fun {b o} z => by rw [upd_ne (nst z)]; exact z
  have e1 : Env0 P w K mg base A outer s (upd H st (.lst [.int x0, .int x1, .int x2, .int x3])) :=
    ⟨e0.frames, e0.mod, fun b o q => ⟨(e0.bs b o q).1, up (e0.bs b o q).2⟩, e0.bsz, e0.funs, fun b hb => up (e0.frf b hb), hok1, e0.bare⟩
  have hS1 : ∀ o, SqL K (upd (upd H st (.lst [.int x0, .int x1, .int x2, .int x3])) st o) a (ns.map V.int) := by
    intro o
    rw [upd_upd]
    rcases hS with (hS | ⟨o, hS⟩) | hS
    · exact .inl (.inl (up_ne (ne_of hS hst nofun) hS))
    · exact .inl (.inr ⟨o, up_ne (ne_of hS hst nofun) hS⟩)
    · exact .inr hS
  refine codeAny_mono (F A outer s _ us _ (fun v H' => ∃ r y0 y1 y2 y3 : Int, 0 ≤ r ∧ r < n ∧ v = .int r ∧ H' = upd H st (.lst [.int y0, .int y1, .int y2, .int y3])) (fun _ _ _ => False) hr e1 r
    ⟨a, st, ns, n, x0, x1, x2, x3, rfl, hS1, hl, upd_same, n0, n1, fun r y0 y1 y2 y3 h0 h1 => ⟨r, y0, y1, y2, y3, h0, h1, rfl, upd_upd⟩⟩) fun rr s' hq' => ?_
  cases rr with
  | error e => exact (cx_false hq').elim
  | ok fl =>
    cases fl with
    | ret u =>
      obtain ⟨v, H', os, bare, un, hok, rv, r, y0, y1, y2, y3, h0, h1, ev, eH⟩ := hq'
      subst ev eH
      have hok2 : HOk P w H s'.heap := by
        have z := hok_as (u := StO st) hok upd_same (fun _ => nofun) (fun _ => nofun) (st_ok (hok st _ upd_same))
        rw [upd_back hst] at z
        exact z
      refine ⟨.int r, H, os, bare, ⟨fun b o q n hb hx => un.keep b o q (up n) hb hx, fun b o q n hb hx => un.slot b o q (up n) hb hx, fun b o q n hx => n, un.there, fun _ _ z => z, fun _ _ _ z => z, fun b ps z => ⟨#[], by rw [z]; simp⟩⟩, hok2, rv, hq r h0 h1⟩
    | next => exact hq'.elim
    | brk => exact hq'.elim
    | cont => exact hq'.elim
/-- _law_start: a new list of four ints -/
def spStartL (K : PySem.W.Frag) : Sp := fun vs H Q _ => ∃ (a : Addr) (ns : List Int), vs = [.ref a] ∧ SqL K H a (ns.map V.int) ∧ ns.length ≤ 63 ∧ ∀ (st : Addr) (y0 y1 y2 y3 : Int), H st = none → Q (.ref st) (upd H st (.lst [.int y0, .int y1, .int y2, .int y3]))
def spStart (K : PySem.W.Frag) : Sp := fun vs H Q _ => ∃ (a : Addr) (ns : List Int), vs = [.ref a] ∧ SqL K H a (ns.map V.int) ∧ ns.length ≤ 63 ∧ ∀ st : Addr, H st = none → Q (.ref st) (upd H st (StO st))
theorem i_start {K : PySem.W.Frag} {H : Hp} {Q : VK} {E : XK} {a : Addr} {ns : List Int} (hS : SqL K H a (ns.map V.int)) (hl : ns.length ≤ 63) (k : ∀ (st : Addr) (H1 : Hp), H st = none → Ext H H1 → H1 st = some (StO st) → Q (.ref st) H1) : spStart K [.ref a] H Q E := ⟨a, ns, rfl, hS, hl, fun st n => k st _ n (Ext.new (Ext.refl _) n) upd_same⟩
theorem start_abs {P : Program} {w : World} {K : PySem.W.Frag} {mg : Str → Option Value} {base : Heap} {k : Nat} {f : Addr} (F : FnR P w K mg base (L2.CX P w) k f (spStartL K)) : FnR P w K mg base (L2.CX P w) k f (spStart K) := by
  intro A outer s H us vs Q E hr e0 r h
  obtain ⟨a, ns, rfl, hS, hl, hq⟩ := h
  refine codeAny_mono (F A outer s _ us _ (fun v H' => ∃ (st : Addr) (y0 y1 y2 y3 : Int), H st = none ∧ v = .ref st ∧ H' = upd H st (.lst [.int y0, .int y1, .int y2, .int y3])) (fun _ _ _ => False) hr e0 r
    ⟨a, ns, rfl, hS, hl, fun st y0 y1 y2 y3 hn => ⟨st, y0, y1, y2, y3, hn, rfl, rfl⟩⟩) fun rr s' hq' => ?_
  cases rr with
  | error e => exact (cx_false hq').elim
  | ok fl =>
    cases fl with
    | ret u =>
      obtain ⟨v, H', os, bare, un, hok, rv, st, y0, y1, y2, y3, hn, ev, eH⟩ := hq'
      subst ev eH
      have z := hok_as (u := StO st) hok upd_same (fun _ => nofun) (fun _ => nofun) (st_ok (hok st _ upd_same))
      rw [upd_upd] at z
      refine ⟨.ref st, upd H st (StO st), os, bare, ⟨un.keep, un.slot, fun b o q n hx => ?_, un.there, fun b xs q => up_new hn q, fun b o u q => up_new hn q, fun b ps q => ⟨#[], by rw [up_new hn q]; simp⟩⟩, z, rv, hq st hn⟩
      have y := un.free b o q n hx
      by_cases hb : b = st
      · rw [hb, upd_same] at y; cases y
      · rw [upd_ne hb] at y ⊢; exact y
    | next => exact hq'.elim
    | brk => exact hq'.elim
    | cont => exact hq'.elim
end Wp
/-! Loops and comprehensions over data. -/
namespace Wp
open PySem L2

/-! ### data -/
section
variable {K : PySem.W.Frag} {H H' : Hp}
theorem DpAll.len : ∀ {xs : List V} {ds : List PyData}, DpAll K H xs ds → xs.length = ds.length
  | _, _, .nil => rfl
  | _, _, .cons _ r => congrArg (· + 1) (DpAll.len r)
theorem DpAll.at : ∀ {xs : List V} {ds : List PyData} {i : Nat} {x : V}, DpAll K H xs ds → xs[i]? = some x → ∃ d, ds[i]? = some d ∧ Dp K H x d
  | _, _, _, _, .nil, h => by simp at h
  | _, _, 0, _, .cons a _, h => by
    simp at h
    subst h
    exact ⟨_, rfl, a⟩
  | _, _, i + 1, _, .cons _ r, h => by
    obtain ⟨d, e, p⟩ := DpAll.at r (i := i) (by simpa using h)
    exact ⟨d, by simpa using e, p⟩
theorem DpAll.to : ∀ {xs : List V} {ds : List PyData} {i : Nat} {d : PyData}, DpAll K H xs ds → ds[i]? = some d → ∃ x, xs[i]? = some x ∧ Dp K H x d
  | _, _, _, _, .nil, h => by simp at h
  | _, _, 0, _, .cons a _, h => by
    simp at h
    subst h
    exact ⟨_, rfl, a⟩
  | _, _, i + 1, _, .cons _ r, h => by
    obtain ⟨d, e, p⟩ := DpAll.to r (i := i) (by simpa using h)
    exact ⟨d, by simpa using e, p⟩
theorem DpAll.app : ∀ {xs : List V} {ds : List PyData} {ys : List V} {es : List PyData}, DpAll K H xs ds → DpAll K H ys es → DpAll K H (xs ++ ys) (ds ++ es)
  | _, _, _, _, .nil, h => h
  | _, _, _, _, .cons a r, h => .cons a (DpAll.app r h)
theorem DpAll.drop : ∀ {xs : List V} {ds : List PyData} (n : Nat), DpAll K H xs ds → DpAll K H (xs.drop n) (ds.drop n)
  | _, _, 0, h => h
  | _, _, _ + 1, .nil => .nil
  | _, _, n + 1, .cons _ r => DpAll.drop n r
theorem DpAll.take : ∀ {xs : List V} {ds : List PyData} (n : Nat), DpAll K H xs ds → DpAll K H (xs.take n) (ds.take n)
  | _, _, 0, _ => by simp; exact .nil
  | _, _, _ + 1, .nil => .nil
  | _, _, n + 1, .cons a r => .cons a (DpAll.take n r)
/-- ints -/
def dI (ns : List Int) : List PyData := ns.map PyData.int
theorem dp_int {v : V} {i : Int} (h : Dp K H v (.int i)) : v = .int i := by cases h; rfl
theorem dp_bl {v : V} {b : Bool} (h : Dp K H v (.bool b)) : v = .bl b := by cases h; rfl
theorem dp_str {v : V} {x : Str} (h : Dp K H v (.str x)) : v = .str x := by cases h; rfl
theorem dp_non {v : V} (h : Dp K H v .none) : v = .non := by cases h; rfl
theorem dp_tup {v : V} {ds : List PyData} (h : Dp K H v (.tuple ds)) : ∃ a xs, v = .ref a ∧ SqT K H a xs ∧ DpAll K H xs ds := by cases h with | tup a b => exact ⟨_, _, rfl, a, b⟩
theorem dp_lst {v : V} {ds : List PyData} (h : Dp K H v (.list ds)) : ∃ a xs, v = .ref a ∧ SqL K H a xs ∧ DpAll K H xs ds := by cases h with | lst a b => exact ⟨_, _, rfl, a, b⟩
theorem dpi : ∀ {xs : List V} {ns : List Int}, DpAll K H xs (dI ns) → xs = ns.map V.int
  | _, [], .nil => rfl
  | _, n :: ns, .cons a r => by rw [dp_int a, dpi r]; rfl
theorem dpi_of : ∀ {ns : List Int}, DpAll K H (ns.map V.int) (dI ns)
  | [] => .nil
  | _ :: _ => .cons (.int _) dpi_of
theorem dpT {a : Addr} {xs : List V} {ds : List PyData} (h : H a = some (.tup xs)) (k : DpAll K H xs ds) : Dp K H (.ref a) (.tuple ds) := .tup (SqT.of h) k
theorem dpL {a : Addr} {xs : List V} {ds : List PyData} (h : H a = some (.lst xs)) (k : DpAll K H xs ds) : Dp K H (.ref a) (.list ds) := .lst (SqL.of h) k
theorem ext_dpN {v : V} {d : PyData} {p : Addr} {o : HO} (h : H p = none) (k : Dp K H v d) : Dp K (upd H p o) v d := ext_dp (Ext.new (Ext.refl _) h) k
/-- a tuple of ints, a list of ints -/
def tI (ns : List Int) : PyData := .tuple (dI ns)
def lI (ns : List Int) : PyData := .list (dI ns)
theorem dp_tI {v : V} {ns : List Int} (h : Dp K H v (tI ns)) : ∃ a, v = .ref a ∧ SqT K H a (ns.map V.int) := by
  obtain ⟨a, xs, e, h1, h2⟩ := dp_tup h
  rw [dpi h2] at h1
  exact ⟨a, e, h1⟩
theorem dp_lI {v : V} {ns : List Int} (h : Dp K H v (lI ns)) : ∃ a, v = .ref a ∧ SqL K H a (ns.map V.int) := by
  obtain ⟨a, xs, e, h1, h2⟩ := dp_lst h
  rw [dpi h2] at h1
  exact ⟨a, e, h1⟩
theorem tI_of {a : Addr} {ns : List Int} (h : SqT K H a (ns.map V.int)) : Dp K H (.ref a) (tI ns) := .tup h dpi_of
theorem lI_of {a : Addr} {ns : List Int} (h : SqL K H a (ns.map V.int)) : Dp K H (.ref a) (lI ns) := .lst h dpi_of
end

/-! ### plain values -/
mutual
def noL : PyData → Bool
  | .list _ => false
  | .tuple ds => noLs ds
  | .dict _ => false
  | _ => true
def noLs : List PyData → Bool
  | [] => true
  | d :: ds => noL d && noLs ds
end

theorem ixN_of {n : Nat} {a : Int} (h0 : 0 ≤ a) (h1 : a < n) : ixN n a = some a.toNat := by
  unfold ixN
  rw [if_pos h0, if_pos h1]
theorem at_all {xs : List V} {i : Int} {P : V → Prop} (h : ∀ x ∈ xs, P x) (h0 : 0 ≤ i) (h1 : i < xs.length) : ∃ v, atI xs i = some v ∧ P v := by
  obtain ⟨v, e, g⟩ := at_in h0 h1
  exact ⟨v, e, h v (List.mem_of_getElem? g)⟩
/-- None, a truth, an int, a text: its data -/
def scD : V → PyData
  | .bl b => .bool b
  | .int i => .int i
  | .str z => .str z
  | _ => .none
def isS : V → Bool
  | .bl _ => true
  | .int _ => true
  | .str _ => true
  | .non => true
  | _ => false
theorem sc_dp {K : PySem.W.Frag} {H : Hp} {v : V} (h : isS v = true) : Dp K H v (scD v) := by
  cases v <;> first | constructor | cases h
theorem sc_dps {K : PySem.W.Frag} {H : Hp} : ∀ {vs : List V}, vs.all isS = true → DpAll K H vs (vs.map scD)
  | [], _ => .nil
  | v :: vs, h => by
    simp only [List.all_cons, Bool.and_eq_true] at h
    exact .cons (sc_dp h.1) (sc_dps h.2)
theorem sc_noL {v : V} : noL (scD v) = true := by cases v <;> simp [scD, noL]
/-! ### equality -/
def Sh (n : Nat) (d : PyData) : Prop := d.canLay0 = true ∧ d.depth ≤ n
def ShA (n : Nat) (ds : List PyData) : Prop := PyData.canLayAll0 ds = true ∧ PyData.depthAll ds ≤ n
theorem sh_int {n : Nat} {i : Int} : Sh n (.int i) := ⟨by simp [PyData.canLay0], by simp [PyData.depth]⟩
theorem sh_bl {n : Nat} {i : Bool} : Sh n (.bool i) := ⟨by simp [PyData.canLay0], by simp [PyData.depth]⟩
theorem sh_non {n : Nat} : Sh n .none := ⟨by simp [PyData.canLay0], by simp [PyData.depth]⟩
theorem sh_str {n : Nat} {x : Str} (h : PyData.strOk x = true) : Sh n (.str x) := ⟨by simp [PyData.canLay0, h], by simp [PyData.depth]⟩
theorem sh_tup {n : Nat} {ds : List PyData} (h : ShA n ds) : Sh (n + 1) (.tuple ds) := ⟨by simp [PyData.canLay0, h.1], by simp [PyData.depth, h.2]⟩
theorem sh_lst {n : Nat} {ds : List PyData} (h : ShA n ds) : Sh (n + 1) (.list ds) := ⟨by simp [PyData.canLay0, h.1], by simp [PyData.depth, h.2]⟩
theorem sha_nil {n : Nat} : ShA n [] := ⟨by simp [PyData.canLayAll0], by simp [PyData.depthAll]⟩
theorem sha_cons {n : Nat} {d : PyData} {ds : List PyData} (h : Sh n d) (k : ShA n ds) : ShA n (d :: ds) := ⟨by simp [PyData.canLayAll0, h.1, k.1], by simp only [PyData.depthAll]; exact Nat.max_le.mpr ⟨h.2, k.2⟩⟩
theorem sha_of {n : Nat} : ∀ {ds : List PyData}, (∀ d ∈ ds, Sh n d) → ShA n ds
  | [], _ => sha_nil
  | _ :: _, h => sha_cons (h _ List.mem_cons_self) (sha_of fun d z => h d (List.mem_cons_of_mem _ z))
theorem sha_dI {n : Nat} (ns : List Int) : ShA n (dI ns) := sha_of fun d z => by
  obtain ⟨i, _, rfl⟩ := List.mem_map.mp z
  exact sh_int
theorem Sh.mono {n m : Nat} {d : PyData} (h : Sh n d) (k : n ≤ m) : Sh m d := ⟨h.1, Nat.le_trans h.2 k⟩
theorem ShA.mono {n m : Nat} {d : List PyData} (h : ShA n d) (k : n ≤ m) : ShA m d := ⟨h.1, Nat.le_trans h.2 k⟩
theorem shd {d : PyData} (h : Sh 64 d) : SeqAt.shaped d = true := by unfold SeqAt.shaped; simp [h.1, h.2]
section
variable {K : PySem.W.Frag} {H : Hp} {x y : V} {d : PyData} {Q : VK}
theorem eqv_self (h : SeqAt.shaped d = true) : PyData.eqv d d = true := SeqAt.eqv_refl d (SeqAt.canLay_of_shaped h)
theorem i_eqSelf (h1 : Dp K H x d) (h2 : Dp K H y d) (h : SeqAt.shaped d = true) (k : Q (.bl true) H) : rEqD K x y H Q := ⟨d, d, h1, h2, h, h, by rw [eqv_self h]; exact k⟩
theorem i_neSelf (h1 : Dp K H x d) (h2 : Dp K H y d) (h : SeqAt.shaped d = true) (k : Q (.bl false) H) : rNeD K x y H Q := ⟨d, d, h1, h2, h, h, by rw [eqv_self h]; exact k⟩
theorem i_BB {a b : Bool} {P : Bool → Bool → Prop} (k : P a b) : ∃ x y, V.bl a = .bl x ∧ V.bl b = .bl y ∧ P x y := ⟨a, b, rfl, rfl, k⟩
theorem ints_at : ∀ {xs : List V} {i : Nat} {x : V}, xs.all isI = true → xs[i]? = some x → ∃ n, x = .int n := by
  intro xs i x h e
  exact isI_int (List.all_eq_true.mp h x (List.mem_of_getElem? e))
end

/-! ### data without lists stays where a list changes -/
section
variable {K : PySem.W.Frag} {H : Hp} {D : Addr} {ys zs : List V}
theorem off_st {a : Addr} {xs : List V} (hD : H D = some (.lst ys)) (h : SqT K H a xs) : SqT K (upd H D (.lst zs)) a xs := by
  rcases h with (h | ⟨o, h⟩) | h
  · exact .inl (.inl (up_ne (ne_of h hD nofun) h))
  · exact .inl (.inr ⟨o, up_ne (ne_of h hD nofun) h⟩)
  · exact .inr h
mutual
theorem off_dp (hD : H D = some (.lst ys)) : ∀ {v : V} {d : PyData}, noL d = true → Dp K H v d → Dp K (upd H D (.lst zs)) v d
  | _, _, _, .non => .non
  | _, _, _, .bl b => .bl b
  | _, _, _, .int i => .int i
  | _, _, _, .str x => .str x
  | _, _, n, .lst h a => by unfold noL at n; cases n
  | _, _, n, .tup h a => .tup (off_st hD h) (off_dps hD (by unfold noL at n; exact n) a)
theorem off_dps (hD : H D = some (.lst ys)) : ∀ {v : List V} {d : List PyData}, noLs d = true → DpAll K H v d → DpAll K (upd H D (.lst zs)) v d
  | _, _, _, .nil => .nil
  | _, _, n, .cons a r => .cons (off_dp hD (by unfold noLs at n; exact (Bool.and_eq_true _ _ ▸ n).1) a) (off_dps hD (by unfold noLs at n; exact (Bool.and_eq_true _ _ ▸ n).2) r)
end
end
theorem noLs_app : ∀ {ds es : List PyData}, noLs ds = true → noLs es = true → noLs (ds ++ es) = true
  | [], _, _, h => h
  | d :: ds, es, h, k => by
    simp only [noLs, List.cons_append, Bool.and_eq_true] at h ⊢
    exact ⟨h.1, noLs_app h.2 k⟩
theorem noLs_of : ∀ {ds : List PyData}, (∀ d ∈ ds, noL d = true) → noLs ds = true
  | [], _ => rfl
  | d :: ds, h => by
    simp only [noLs, Bool.and_eq_true]
    exact ⟨h d List.mem_cons_self, noLs_of fun e z => h e (List.mem_cons_of_mem _ z)⟩
theorem noLs_dI (ns : List Int) : noLs (dI ns) = true := noLs_of fun d z => by
  obtain ⟨i, _, rfl⟩ := List.mem_map.mp z
  rfl

/-! ### folds -/
theorem fold_take {α β : Type} {f : β → α → β} {s : β} {ds : List α} {i : Nat} {d : α} (h : ds[i]? = some d) : (ds.take (i + 1)).foldl f s = f ((ds.take i).foldl f s) d := by
  rw [List.take_add_one, h]
  simp
theorem fold_all {α β : Type} {f : β → α → β} {s : β} {ds : List α} {n : Nat} (h : n = ds.length) : (ds.take n).foldl f s = ds.foldl f s := by rw [h, List.take_length]

/-! ### for -/
def AtL (K : PySem.W.Frag) (x : V) (H1 : Hp) (R : It → Hp → Prop) : Prop := ∃ a, x = .ref a ∧ (∃ xs, SqL K H1 a xs) ∧ R (Itl K a) H1
def AtT (K : PySem.W.Frag) (x : V) (H1 : Hp) (R : It → Hp → Prop) : Prop := ∃ a, x = .ref a ∧ (∃ xs, SqT K H1 a xs) ∧ R (Itt K a) H1
def AtR1 (vs : List V) (H1 : Hp) (R : It → Hp → Prop) : Prop := ∃ j : Int, vs = [.int j] ∧ -(2 ^ 62) ≤ j ∧ j < 2 ^ 62 ∧ R (Itr 0 j.toNat) H1
def AtR2 (vs : List V) (H1 : Hp) (R : It → Hp → Prop) : Prop := ∃ i j : Int, vs = [.int i, .int j] ∧ (-(2 ^ 62) ≤ i ∧ i < 2 ^ 62 ∧ -(2 ^ 62) ≤ j ∧ j < 2 ^ 62) ∧ R (Itr i (j - i).toNat) H1
def AtE (K : PySem.W.Frag) (vs : List V) (H1 : Hp) (R : It → Hp → Prop) : Prop := ∃ a xs, vs = [.ref a] ∧ SqL K H1 a xs ∧ R (Ite K a) H1
def AtS (v : V) (H1 : Hp) (R : It → Hp → Prop) : Prop := ∃ x, v = .str x ∧ R (Its x) H1
/-- the turn's end is a letter of which the word is enough -/
def Np (N P : L2.St → Hp → Prop) : Prop := ∀ σ H, P σ H → N σ H
theorem go_np {N P : L2.St → Hp → Prop} {σ : L2.St} {H : Hp} (h : Np N P) (k : P σ H) : N σ H := h σ H k
def LoopR (J : It) (g : TG) (tb : TS) (D : Ends) (σ : L2.St) (H : Hp) : Prop := ∃ W : Nat → Nat → L2.St → Hp → Prop, (∃ m, W 0 m σ H) ∧ ∀ i m σ H, W i m σ H →
  (J.stop i H ∧ D.nx σ H) ∨ (J.go i H ∧ ∃ N : L2.St → Hp → Prop, (∀ σ' H', N σ' H' → ∃ m', m' < m ∧ W (i + 1) m' σ' H') ∧ ∀ x H', J.yld i H x H' → g x σ H' fun σ2 H2 => tb { D with nx := N, ct := N, bk := D.nx } σ2 H2)
section
variable {K : PySem.W.Frag} {σ : L2.St} {H : Hp} {Q : VK} {D : Ends} {g : TG} {tb : TS} {wi : TI} {tl : TE} {ta : TA} {R : It → Hp → Prop} {a b : Addr} {xs ys : List V} {n m : Int}
theorem i_for (k : wi σ H fun J H1 => LoopR J g tb D σ H1) : tFor wi g tb D σ H := k
theorem i_iList (k : tl σ H fun x H1 => AtL K x H1 R) : iList K tl σ H R := k
theorem i_iTup (k : tl σ H fun x H1 => AtT K x H1 R) : iTup K tl σ H R := k
theorem i_iRng1 (k : ta σ H fun vs H1 => AtR1 vs H1 R) : iRng1 ta σ H R := k
theorem i_iRng2 (k : ta σ H fun vs H1 => AtR2 vs H1 R) : iRng2 ta σ H R := k
theorem i_iEnum (k : ta σ H fun vs H1 => AtE K vs H1 R) : iEnum K ta σ H R := k
theorem i_iStr (k : tl σ H fun v H1 => AtS v H1 R) : iStr tl σ H R := k
theorem at_list (h : SqL K H a xs) (k : R (Itl K a) H) : AtL K (.ref a) H R := ⟨a, rfl, ⟨xs, h⟩, k⟩
theorem at_tup (h : SqT K H a xs) (k : R (Itt K a) H) : AtT K (.ref a) H R := ⟨a, rfl, ⟨xs, h⟩, k⟩
theorem at_rng1 (h1 : -(2 ^ 62) ≤ n) (h2 : n < 2 ^ 62) (k : R (Itr 0 n.toNat) H) : AtR1 [.int n] H R := ⟨n, rfl, h1, h2, k⟩
theorem at_rng2 (h : -(2 ^ 62) ≤ n ∧ n < 2 ^ 62 ∧ -(2 ^ 62) ≤ m ∧ m < 2 ^ 62) (k : R (Itr n (m - n).toNat) H) : AtR2 [.int n, .int m] H R := ⟨n, m, rfl, h, k⟩
theorem at_enum (h : SqL K H a xs) (k : R (Ite K a) H) : AtE K [.ref a] H R := ⟨a, xs, rfl, h, k⟩
theorem at_str {z : Str} (k : R (Its z) H) : AtS (.str z) H R := ⟨z, rfl, k⟩
/-- the loop by a word -/
theorem loop_it {J : It} {n : Nat} {G : Hp → Prop} {Y : Nat → Hp → V → Hp → Prop} (w : Walk J n G Y) (Pv : Nat → L2.St → Hp → Prop) (h0 : Pv 0 σ H) (hG : ∀ i σ H, i ≤ n → Pv i σ H → G H)
    (hs : ∀ i x σ H H', i < n → Pv i σ H → Y i H x H' → g x σ H' fun σ2 H2 => tb { D with nx := Pv (i + 1), ct := Pv (i + 1), bk := D.nx } σ2 H2) (hd : ∀ σ H, Pv n σ H → D.nx σ H) : LoopR J g tb D σ H := for_it w Pv h0 hG hs hd
theorem loop_L (Pv : Nat → L2.St → Hp → Prop) (h0 : Pv 0 σ H) (hG : ∀ i σ H, i ≤ xs.length → Pv i σ H → SqL K H a xs)
    (hs : ∀ i x σ H N, xs[i]? = some x → Pv i σ H → Np N (Pv (i + 1)) → g x σ H fun σ2 H2 => tb { D with nx := N, ct := N, bk := D.nx } σ2 H2) (hd : ∀ σ H, Pv xs.length σ H → D.nx σ H) : LoopR (Itl K a) g tb D σ H :=
  for_it walk_list Pv h0 hG (fun i x σ H H' _ p y => by obtain ⟨rfl, e⟩ := y; exact hs i x σ _ _ e p (fun _ _ h => h)) hd
theorem loop_T (Pv : Nat → L2.St → Hp → Prop) (h0 : Pv 0 σ H) (hG : ∀ i σ H, i ≤ xs.length → Pv i σ H → SqT K H a xs)
    (hs : ∀ i x σ H N, xs[i]? = some x → Pv i σ H → Np N (Pv (i + 1)) → g x σ H fun σ2 H2 => tb { D with nx := N, ct := N, bk := D.nx } σ2 H2) (hd : ∀ σ H, Pv xs.length σ H → D.nx σ H) : LoopR (Itt K a) g tb D σ H :=
  for_it walk_tup Pv h0 hG (fun i x σ H H' _ p y => by obtain ⟨rfl, e⟩ := y; exact hs i x σ _ _ e p (fun _ _ h => h)) hd
theorem loop_R {lo : Int} {n : Nat} (Pv : Nat → L2.St → Hp → Prop) (h0 : Pv 0 σ H)
    (hs : ∀ i σ H N, i < n → Pv i σ H → Np N (Pv (i + 1)) → g (.int (lo + i)) σ H fun σ2 H2 => tb { D with nx := N, ct := N, bk := D.nx } σ2 H2) (hd : ∀ σ H, Pv n σ H → D.nx σ H) : LoopR (Itr lo n) g tb D σ H :=
  for_it walk_range Pv h0 (fun _ _ _ _ _ => trivial) (fun i x σ H H' hi p y => by obtain ⟨rfl, rfl⟩ := y; exact hs i σ _ _ hi p (fun _ _ h => h)) hd
theorem loop_S {z : Str} (Pv : Nat → L2.St → Hp → Prop) (h0 : Pv 0 σ H)
    (hs : ∀ i c σ H N, z.cps[i]? = some c → Pv i σ H → Np N (Pv (i + 1)) → g (.str ⟨#[c]⟩) σ H fun σ2 H2 => tb { D with nx := N, ct := N, bk := D.nx } σ2 H2) (hd : ∀ σ H, Pv z.cps.size σ H → D.nx σ H) : LoopR (Its z) g tb D σ H :=
  for_it walk_str Pv h0 (fun _ _ _ _ _ => trivial) (fun i x σ H H' hi p y => by obtain ⟨rfl, c, e, rfl⟩ := y; exact hs i c σ _ _ e p (fun _ _ h => h)) hd
end

/-! ### comprehensions -/
def LcR (J : It) (g : TG) (tt : TT) (te : TE) (vs : List Nat) (σ : L2.St) (H1 : Hp) (D : Addr) (Q : VK) : Prop := ∃ W : Nat → Nat → Hp → Prop, (∃ m, W 0 m (upd H1 D (.lst []))) ∧ ∀ i m H, W i m H →
  (J.stop i H ∧ Q (.ref D) H) ∨ (J.go i H ∧ ∃ Nx : Hp → Prop, (∀ H', Nx H' → ∃ m', m' < m ∧ W (i + 1) m' H') ∧ ∀ x H', J.yld i H x H' → g x (wipe σ vs) H' fun σ2 H2 => wipe σ2 vs = wipe σ vs ∧ tt σ2 H2 fun b H3 =>
    if b = true then te σ2 H3 fun y H4 => ∃ acc, H4 D = some (.lst acc) ∧ acc.length < sizeLine ∧ Nx (upd H4 D (.lst (acc ++ [y]))) else Nx H3)
section
variable {K : PySem.W.Frag} {σ : L2.St} {H H1 : Hp} {Q : VK} {g : TG} {tt : TT} {te : TE} {wi : TI} {vs : List Nat} {a : Addr} {xs : List V} {ds : List PyData}
theorem i_lc (k : wi σ H fun J H1 => ∀ D, H1 D = none → LcR J g tt te vs σ H1 D Q) : tLc wi g tt te vs σ H Q := k
/-- a comprehension whose turns give data; Pv: what is known of the data so far -/
theorem lc_dat {J : It} {n : Nat} {G : Hp → Prop} {Y : Nat → Hp → V → Hp → Prop} (w : Walk J n G Y) (hn : n ≤ 100000) (hG : ∀ H', Ext H1 H' → G H') (Pv : Nat → List PyData → Prop) (h0 : Pv 0 [])
    (hs : ∀ i x Hc Hx ds, i < n → Ext H1 Hc → Y i Hc x Hx → Pv i ds → ∀ (Y1 : VK) (N1 : Hp → Prop), (∀ y H4 d, Pv (i + 1) (ds ++ [d]) → noL d = true → Ext Hc H4 → Dp K H4 y d → Y1 y H4) → (∀ H4, Pv (i + 1) ds → Ext Hc H4 → N1 H4) →
      g x (wipe σ vs) Hx fun σ2 H2 => wipe σ2 vs = wipe σ vs ∧ tt σ2 H2 fun b H3 => if b = true then te σ2 H3 Y1 else N1 H3)
    (hd : ∀ D Hf ys ds, H1 D = none → Ext H1 Hf → Hf D = some (.lst ys) → DpAll K Hf ys ds → Pv n ds → Q (.ref D) Hf) : ∀ D, H1 D = none → LcR J g tt te vs σ H1 D Q := by
  intro D hD
  refine lc_it w (Qd := Q (.ref D)) (fun i Hc => Ext H1 Hc ∧ ∃ ys ds, Hc D = some (.lst ys) ∧ DpAll K Hc ys ds ∧ noLs ds = true ∧ ds.length ≤ i ∧ Pv i ds) ⟨Ext.new (Ext.refl _) hD, [], [], upd_same, .nil, rfl, Nat.le_refl _, h0⟩ (fun i Hc _ h => hG Hc h.1) ?_ ?_
  · rintro i x Hc Hx hi ⟨e, ys, ds, hy, al, nl, ll, p⟩ y
    refine hs i x Hc Hx ds hi e y p _ _ (fun y H4 d pd ld e4 hd' => ?_) (fun H4 pd e4 => ?_)
    · have e5 : Ext H1 H4 := e.trans e4
      have l1 := DpAll.len al
      refine ⟨ys, e4 _ _ hy, szl (by omega), e5.mut hD, ys ++ [y], ds ++ [d], upd_same, ?_, noLs_app nl (by simp [noLs, ld]), by simp; omega, pd⟩
      exact DpAll.app (off_dps (e4 _ _ hy) nl (ext_dps e4 al)) (.cons (off_dp (e4 _ _ hy) ld hd') .nil)
    · exact ⟨e.trans e4, ys, ds, e4 _ _ hy, ext_dps e4 al, nl, by omega, pd⟩
  · rintro Hc ⟨e, ys, ds, hy, al, nl, ll, p⟩
    exact hd D Hc ys ds hD e hy al p
/-- .. each turn's data told by its number -/
theorem lc_pure {J : It} {n : Nat} {G : Hp → Prop} {Y : Nat → Hp → V → Hp → Prop} (w : Walk J n G Y) (hn : n ≤ 100000) (hG : ∀ H', Ext H1 H' → G H') (f : Nat → Option PyData) (hf : ∀ i d, i < n → f i = some d → noL d = true)
    (hs : ∀ i x Hc Hx, i < n → Ext H1 Hc → Y i Hc x Hx → ∀ (Y1 : VK) (N1 : Hp → Prop), (∀ y H4 d, f i = some d → Ext Hc H4 → Dp K H4 y d → Y1 y H4) → (∀ H4, f i = none → Ext Hc H4 → N1 H4) →
      g x (wipe σ vs) Hx fun σ2 H2 => wipe σ2 vs = wipe σ vs ∧ tt σ2 H2 fun b H3 => if b = true then te σ2 H3 Y1 else N1 H3)
    (hd : ∀ D Hf ys, H1 D = none → Ext H1 Hf → Hf D = some (.lst ys) → DpAll K Hf ys ((List.range n).filterMap f) → Q (.ref D) Hf) : ∀ D, H1 D = none → LcR J g tt te vs σ H1 D Q := by
  have step : ∀ i, (List.range (i + 1)).filterMap f = (List.range i).filterMap f ++ (match f i with | some d => [d] | none => []) := fun i => by
    rw [List.range_succ, List.filterMap_append]
    congr 1
    cases q : f i <;> simp [List.filterMap_cons, q]
  refine lc_dat w hn hG (fun i ds => ds = (List.range i).filterMap f) (by simp) (fun i x Hc Hx ds hi e y p Y1 N1 k1 k2 => ?_) (fun D Hf ys ds hD e hy al p => hd D Hf ys hD e hy (p ▸ al))
  exact hs i x Hc Hx hi e y Y1 N1 (fun y H4 d fd e4 hd' => k1 y H4 d (by rw [step, fd, p]) (hf i d hi fd) e4 hd') (fun H4 fd e4 => k2 H4 (by rw [step, fd, p]; simp) e4)
end

/-! ### more built-in functions -/
def rSumT (K : PySem.W.Frag) : List V → Hp → VK → Prop := fun vs H Q => ∃ (a : Addr) (ns : List Int), vs = [V.ref a] ∧ SqT K H a (ns.map V.int) ∧ Q (.int ns.sum) H
open PySem.Spec PyProof.Rows PyProof.V in
theorem cr_sumT {X : Cx} (hc : X.calm = true) : CallR X (.builtin "sum") (rSumT X.K) := by
  intro pins s σ H vs us Q I r h
  obtain ⟨a, ns, rfl, hs, q⟩ := h
  obtain ⟨its, rv, hl, _⟩ := I.tuple hs
  rw [Vals.ref1 r]
  have hi := rv.ints
  obtain ⟨xs, e⟩ := hi.allInts.items
  have hn : numsOf (intItems xs).toList = ns := by rw [← e]; exact hi.numsOf
  rw [nums_intItems] at hn
  rw [e] at hl
  refine PySem.W.ktm_sumG (I.ok.hd hc) hl fun h' tk t' hk => ?_
  rw [preSum_eq, List.take_of_length_le (by simp), hn]
  exact ⟨.int _, H, I.kept hk, ⟨_, rfl⟩, q⟩
end Wp
namespace Law
open PySem L2 Wp
local macro_rules | `(tactic| walk_at "hk") => `(tactic| first | assumption | (with_reducible exact upd_same) | ((with_reducible show upd _ _ _ _ = some _); first | (refine up_new (by assumption) ?_; walk_at "hk") | (refine up_ne ?_ ?_; (focus walk_at "ne"); walk_at "hk")) | ((with_reducible apply ext_get); (focus assumption); walk_at "hk"))
local macro_rules | `(tactic| walk_at "ne") => `(tactic| first | assumption | (apply Ne.symm; assumption) | ((apply ne_of_none); (focus walk_at "hk"); assumption) | ((apply Ne.symm); (apply ne_of_none); (focus walk_at "hk"); assumption) | ((apply ne_of); (focus walk_at "hk"); (focus walk_at "hk"); exact nofun))
local macro_rules | `(tactic| walk_at "lk") => `(tactic| first | (with_reducible exact lk_hit) | (with_reducible exact lk_nil) | ((with_reducible refine lk_miss ?_ ?_); (focus decide +kernel); walk_at "lk"))
local macro_rules | `(tactic| walk_at "sl") => `(tactic| first | assumption | (exact SqL.of (by assumption)) | (with_reducible exact (by assumption : ∀ o, SqL _ (upd _ _ o) _ _) _) | ((with_reducible show SqL _ (upd _ _ _) _ _); first | (exact SqL.of upd_same) | (refine ext_sl (Ext.new (Ext.refl _) (by assumption)) ?_; walk_at "sl") | (exact SqL.of (by walk_at "hk"))) | ((with_reducible apply ext_sl); (focus assumption); walk_at "sl") )
local macro_rules | `(tactic| walk_at "st") => `(tactic| first | assumption | (exact SqT.of (by assumption)) | (with_reducible exact (by assumption : ∀ o, SqT _ (upd _ _ o) _ _) _) | ((with_reducible show SqT _ (upd _ _ _) _ _); first | (exact SqT.of upd_same) | (refine ext_st (Ext.new (Ext.refl _) (by assumption)) ?_; walk_at "st") | (exact SqT.of (by walk_at "hk"))) | ((with_reducible apply ext_st); (focus assumption); walk_at "st") )
local macro_rules | `(tactic| walk_at "dp") => `(tactic| first | (with_reducible exact Dp.int _) | (with_reducible exact Dp.bl _) | (with_reducible exact Dp.str _) | (with_reducible exact Dp.non) | (with_reducible assumption) | ((with_reducible apply dpT); (focus with_reducible assumption); walk_at "dps") | ((with_reducible apply dpL); (focus with_reducible assumption); walk_at "dps") | ((with_reducible apply Dp.tup); (focus with_reducible assumption); walk_at "dps") | ((with_reducible apply Dp.lst); (focus with_reducible assumption); walk_at "dps") | ((with_reducible apply ext_dpN); (focus with_reducible assumption); walk_at "dp") | ((with_reducible apply ext_dp); (focus with_reducible assumption); walk_at "dp"))
local macro_rules | `(tactic| walk_at "sh") => `(tactic| first | (with_reducible exact sh_int) | (with_reducible exact sh_bl) | (with_reducible exact sh_non) | assumption | ((with_reducible refine sh_str ?_); first | assumption | decide +kernel) | ((with_reducible refine sh_tup ?_); walk_at "sha") | ((with_reducible refine sh_lst ?_); walk_at "sha"))
local macro_rules | `(tactic| walk_at "sha") => `(tactic| first | (with_reducible exact sha_nil) | assumption | (with_reducible exact sha_dI _) | ((with_reducible refine sha_cons ?_ ?_); (focus walk_at "sh"); walk_at "sha"))
local macro_rules | `(tactic| walk_at "shd") => `(tactic| (refine shd ?_; walk_at "sh"))
local macro_rules | `(tactic| walk_at "dps") => `(tactic| first | (with_reducible exact DpAll.nil) | ((with_reducible apply DpAll.cons); (focus walk_at "dp"); walk_at "dps") | (with_reducible exact dpi_of) | (with_reducible assumption))
local macro_rules | `(tactic| walk_at "rd1") => `(tactic| first | ((with_reducible show tVar _ _ _ _); refine i_var (by exact rfl) ?_) | ((with_reducible refine i_name ?_); (try dsimp only [List.set_cons_succ, List.set_cons_zero, Int.reduceToNat])) | ((with_reducible show tAug _ _ _ _ _ _); refine i_aug (by exact rfl) ?_) | (with_reducible refine i_c ?_) | (with_reducible refine i_op ?_) | (with_reducible refine i_un ?_) | (with_reducible refine i_U ?_) | (with_reducible refine i_I0 ?_) | (with_reducible refine i_cmp ?_) | (with_reducible refine i_II ?_) | (with_reducible refine i_isN ?_) | (with_reducible refine i_notN ?_) | (with_reducible refine i_B ?_) | (with_reducible refine i_test ?_) | (with_reducible refine i_bl ?_) | (with_reducible refine i_and ?_) | (with_reducible refine i_or ?_) | (with_reducible refine i_not ?_) | (with_reducible refine i_andV ?_) | (with_reducible refine i_orV ?_) | (with_reducible refine i_notV ?_) | (with_reducible refine i_if ?_) | (with_reducible refine i_chain ?_) | (with_reducible refine i_nil ?_) | (with_reducible refine i_cons ?_) | (with_reducible refine i_tup ?_) | (with_reducible refine i_lst ?_) | (with_reducible refine i_call ?_) | (with_reducible refine i_cb ?_) | (with_reducible refine i_met ?_) | (with_reducible refine i_mak ?_) | (with_reducible refine i_fld ?_) | (with_reducible refine i_sl ?_) | (with_reducible refine i_noPart ?_) | (with_reducible refine i_part ?_) | (with_reducible refine i_1I ?_) | (with_reducible refine i_bm ?_) | (with_reducible refine i_bm0 ?_) | (with_reducible refine i_next ?_) | (with_reducible refine i_brk ?_) | (with_reducible refine i_cont ?_) | (with_reducible refine i_drop ?_) | (with_reducible refine i_ret ?_) | (with_reducible refine i_retN ?_) | (with_reducible refine i_ifS ?_) | (with_reducible refine i_asg ?_) | (with_reducible refine i_gsub ?_) | (with_reducible refine i_par ?_) | (with_reducible refine i_par2 ?_) | (with_reducible refine i_ipI ?_) | (with_reducible refine i_sfld ?_) | (with_reducible refine i_raiseE ?_) | (with_reducible refine i_xf ?_) | (with_reducible refine i_int ?_) | (with_reducible refine i_intB ?_) | (with_reducible refine i_abs ?_) | (with_reducible refine i_for ?_) | (with_reducible refine i_iList ?_) | (with_reducible refine i_iTup ?_) | (with_reducible refine i_iRng1 ?_) | (with_reducible refine i_iRng2 ?_) | (with_reducible refine i_iEnum ?_) | (with_reducible refine i_iStr ?_) | (with_reducible refine i_lc ?_) | (with_reducible refine at_str ?_) | (with_reducible refine i_BB ?_) | (with_reducible refine i_yes ?_) | (with_reducible refine is_int_int ?_) | (with_reducible refine is_int_bool ?_) | (with_reducible refine is_int_str ?_) | (with_reducible refine is_int_tuple ?_) | (with_reducible refine is_int_list ?_) | (with_reducible refine is_int_dict ?_) | (with_reducible refine is_bl_int ?_) | (with_reducible refine is_bl_bool ?_) | (with_reducible refine is_bl_str ?_) | (with_reducible refine is_bl_tuple ?_) | (with_reducible refine is_bl_list ?_) | (with_reducible refine is_bl_dict ?_) | (with_reducible refine is_str_int ?_) | (with_reducible refine is_str_bool ?_) | (with_reducible refine is_str_str ?_) | (with_reducible refine is_str_tuple ?_) | (with_reducible refine is_str_list ?_) | (with_reducible refine is_str_dict ?_) | (with_reducible refine is_non_int ?_) | (with_reducible refine is_non_bool ?_) | (with_reducible refine is_non_str ?_) | (with_reducible refine is_non_tuple ?_) | (with_reducible refine is_non_list ?_) | (with_reducible refine is_non_dict ?_) | (with_reducible refine i_min2 ?_) | (with_reducible refine i_max2 ?_) | ((with_reducible refine i_I ?_ ?_); focus (first | decide | exact ⟨by decide, by decide⟩ | exact ⟨by omega, by omega⟩ | omega | exact Or.inr ⟨by decide, by decide⟩ | exact Or.inl ⟨by decide, by decide⟩ | exact ⟨by decide, by decide, by decide⟩)) | ((with_reducible refine i_eq ?_ ?_); focus exact rfl) | ((with_reducible refine i_ne ?_ ?_); focus exact rfl) | ((with_reducible show rIxL _ (V.ref _) (V.int _) _ _); refine i_ixL (by walk_at "sl") (by exact rfl) ?_) | ((with_reducible show rIxT _ (V.ref _) (V.int _) _ _); refine i_ixT (by walk_at "st") (by exact rfl) ?_) | ((with_reducible show rSetL (V.ref _) (V.int _) _ _ _); refine i_setL (by walk_at "hk") (by exact rfl) ?_; (try rw [upd_upd]); (try dsimp only [List.set_cons_succ, List.set_cons_zero, Int.reduceToNat])) | ((with_reducible show rLenQ _ [V.ref _] _ _); refine i_lenL (by walk_at "sl") ?_) | ((with_reducible show rLenQ _ [V.ref _] _ _); refine i_lenT (by walk_at "st") ?_) | ((with_reducible show rIxL _ (V.ref _) (V.int 0) _ _); refine i_ixL (by walk_at "sl") (by exact at_hd) ?_) | ((with_reducible show rIxT _ (V.ref _) (V.int 0) _ _); refine i_ixT (by walk_at "st") (by exact at_hd) ?_) | ((with_reducible refine i_newT ?_ ?_); focus (first | decide | exact Nat.le_of_ble_eq_true rfl | (simp only [List.length_cons, List.length_nil]; omega))) | ((with_reducible refine i_newL ?_ ?_); focus (first | decide | exact Nat.le_of_ble_eq_true rfl | (simp only [List.length_cons, List.length_nil]; omega))) | ((with_reducible show rIsX _ _ (Value.ref _) (some _) _ [V.ref _, V.ref _] _ _); refine i_isXr (by walk_at "hk") (by walk_at "ki") ?_) | ((with_reducible show rIsX _ _ (Value.ref _) (some _) _ [V.ref _, V.ty _] _ _); refine i_isXt (by walk_at "hk") (by walk_at "ki") ?_) | ((with_reducible apply i_xfv); (focus walk_at "hk"); (focus walk_at "lk")) | ((with_reducible apply at_list); (focus walk_at "sl")) | ((with_reducible apply at_tup); (focus walk_at "st")) | ((with_reducible apply at_enum); (focus walk_at "sl")) | ((with_reducible refine at_rng1 ?_ ?_ ?_); (focus omega); (focus omega)) | ((with_reducible refine at_rng2 ?_ ?_); (focus omega)) | ((with_reducible refine i_wipe ?_ ?_); (focus exact rfl)) | ((with_reducible show rListOf _ [V.ref _] _ _); first | (refine i_listL (by walk_at "sl") ?_) | (refine i_listT (by walk_at "st") ?_)) | ((with_reducible show rTupOf _ [V.ref _] _ _); first | (refine i_tupL (by walk_at "sl") ?_) | (refine i_tupT (by walk_at "st") ?_)) | ((with_reducible show spDraw _ _ _ _ _); refine i_draw (by walk_at "sl") (by assumption) (by walk_at "hk") (by first | omega | (simp only [List.length_cons, List.length_nil, List.length_map] at *; omega)) (by first | omega | (simp only [List.length_cons, List.length_nil, List.length_map] at *; omega)) ?_) | ((with_reducible show spStart _ _ _ _ _); refine i_start (by walk_at "sl") (by assumption) ?_) | ((with_reducible refine i_seqN ?_); intro _ _) | ((with_reducible apply go_nx); (focus assumption)) | ((with_reducible apply go_np); (focus assumption)) | ((with_reducible show ite (_ = true) _ _); first | refine iteT ?_ | refine iteF ?_))
local macro_rules | `(tactic| walk_at "rd") => `(tactic| (repeat walk_at "rd1"))
local macro_rules | `(tactic| walk_at "rd01") => `(tactic| first | ((with_reducible show tVar _ _ _ _); refine i_var (by exact rfl) ?_) | ((with_reducible refine i_name ?_); (try dsimp only [List.set_cons_succ, List.set_cons_zero, Int.reduceToNat])) | ((with_reducible show tAug _ _ _ _ _ _); refine i_aug (by exact rfl) ?_) | (with_reducible refine i_c ?_) | (with_reducible refine i_op ?_) | (with_reducible refine i_un ?_) | (with_reducible refine i_U ?_) | (with_reducible refine i_I0 ?_) | (with_reducible refine i_cmp ?_) | (with_reducible refine i_II ?_) | (with_reducible refine i_isN ?_) | (with_reducible refine i_notN ?_) | (with_reducible refine i_B ?_) | (with_reducible refine i_test ?_) | (with_reducible refine i_bl ?_) | (with_reducible refine i_and ?_) | (with_reducible refine i_or ?_) | (with_reducible refine i_not ?_) | (with_reducible refine i_andV ?_) | (with_reducible refine i_orV ?_) | (with_reducible refine i_notV ?_) | (with_reducible refine i_if ?_) | (with_reducible refine i_chain ?_) | (with_reducible refine i_nil ?_) | (with_reducible refine i_cons ?_) | (with_reducible refine i_tup ?_) | (with_reducible refine i_lst ?_) | (with_reducible refine i_call ?_) | (with_reducible refine i_cb ?_) | (with_reducible refine i_met ?_) | (with_reducible refine i_mak ?_) | (with_reducible refine i_fld ?_) | (with_reducible refine i_sl ?_) | (with_reducible refine i_noPart ?_) | (with_reducible refine i_part ?_) | (with_reducible refine i_1I ?_) | (with_reducible refine i_bm ?_) | (with_reducible refine i_bm0 ?_) | (with_reducible refine i_next ?_) | (with_reducible refine i_brk ?_) | (with_reducible refine i_cont ?_) | (with_reducible refine i_drop ?_) | (with_reducible refine i_ret ?_) | (with_reducible refine i_retN ?_) | (with_reducible refine i_ifS ?_) | (with_reducible refine i_asg ?_) | (with_reducible refine i_gsub ?_) | (with_reducible refine i_par ?_) | (with_reducible refine i_par2 ?_) | (with_reducible refine i_ipI ?_) | (with_reducible refine i_sfld ?_) | (with_reducible refine i_raiseE ?_) | (with_reducible refine i_xf ?_) | (with_reducible refine i_int ?_) | (with_reducible refine i_intB ?_) | (with_reducible refine i_abs ?_) | (with_reducible refine i_for ?_) | (with_reducible refine i_iList ?_) | (with_reducible refine i_iTup ?_) | (with_reducible refine i_iRng1 ?_) | (with_reducible refine i_iRng2 ?_) | (with_reducible refine i_iEnum ?_) | (with_reducible refine i_iStr ?_) | (with_reducible refine i_lc ?_) | (with_reducible refine at_str ?_) | (with_reducible refine i_BB ?_) | (with_reducible refine i_yes ?_) | (with_reducible refine is_int_int ?_) | (with_reducible refine is_int_bool ?_) | (with_reducible refine is_int_str ?_) | (with_reducible refine is_int_tuple ?_) | (with_reducible refine is_int_list ?_) | (with_reducible refine is_int_dict ?_) | (with_reducible refine is_bl_int ?_) | (with_reducible refine is_bl_bool ?_) | (with_reducible refine is_bl_str ?_) | (with_reducible refine is_bl_tuple ?_) | (with_reducible refine is_bl_list ?_) | (with_reducible refine is_bl_dict ?_) | (with_reducible refine is_str_int ?_) | (with_reducible refine is_str_bool ?_) | (with_reducible refine is_str_str ?_) | (with_reducible refine is_str_tuple ?_) | (with_reducible refine is_str_list ?_) | (with_reducible refine is_str_dict ?_) | (with_reducible refine is_non_int ?_) | (with_reducible refine is_non_bool ?_) | (with_reducible refine is_non_str ?_) | (with_reducible refine is_non_tuple ?_) | (with_reducible refine is_non_list ?_) | (with_reducible refine is_non_dict ?_) | (with_reducible refine i_min2 ?_) | (with_reducible refine i_max2 ?_) | ((with_reducible refine i_I ?_ ?_); focus (first | decide | exact ⟨by decide, by decide⟩ | exact ⟨by omega, by omega⟩ | omega | exact Or.inr ⟨by decide, by decide⟩ | exact Or.inl ⟨by decide, by decide⟩ | exact ⟨by decide, by decide, by decide⟩)) | ((with_reducible refine i_eq ?_ ?_); focus exact rfl) | ((with_reducible refine i_ne ?_ ?_); focus exact rfl) | ((with_reducible show rIxL _ (V.ref _) (V.int _) _ _); refine i_ixL (by walk_at "sl") (by exact rfl) ?_) | ((with_reducible show rIxT _ (V.ref _) (V.int _) _ _); refine i_ixT (by walk_at "st") (by exact rfl) ?_) | ((with_reducible show rSetL (V.ref _) (V.int _) _ _ _); refine i_setL (by walk_at "hk") (by exact rfl) ?_; (try rw [upd_upd]); (try dsimp only [List.set_cons_succ, List.set_cons_zero, Int.reduceToNat])) | ((with_reducible show rLenQ _ [V.ref _] _ _); refine i_lenL (by walk_at "sl") ?_) | ((with_reducible show rLenQ _ [V.ref _] _ _); refine i_lenT (by walk_at "st") ?_) | ((with_reducible show rIxL _ (V.ref _) (V.int 0) _ _); refine i_ixL (by walk_at "sl") (by exact at_hd) ?_) | ((with_reducible show rIxT _ (V.ref _) (V.int 0) _ _); refine i_ixT (by walk_at "st") (by exact at_hd) ?_) | ((with_reducible show rIsX _ _ (Value.ref _) (some _) _ [V.ref _, V.ref _] _ _); refine i_isXr (by walk_at "hk") (by walk_at "ki") ?_) | ((with_reducible show rIsX _ _ (Value.ref _) (some _) _ [V.ref _, V.ty _] _ _); refine i_isXt (by walk_at "hk") (by walk_at "ki") ?_) | ((with_reducible apply i_xfv); (focus walk_at "hk"); (focus walk_at "lk")) | ((with_reducible apply at_list); (focus walk_at "sl")) | ((with_reducible apply at_tup); (focus walk_at "st")) | ((with_reducible apply at_enum); (focus walk_at "sl")) | ((with_reducible refine at_rng1 ?_ ?_ ?_); (focus omega); (focus omega)) | ((with_reducible refine at_rng2 ?_ ?_); (focus omega)) | ((with_reducible refine i_wipe ?_ ?_); (focus exact rfl)) | ((with_reducible show rListOf _ [V.ref _] _ _); first | (refine i_listL (by walk_at "sl") ?_) | (refine i_listT (by walk_at "st") ?_)) | ((with_reducible show rTupOf _ [V.ref _] _ _); first | (refine i_tupL (by walk_at "sl") ?_) | (refine i_tupT (by walk_at "st") ?_)) | ((with_reducible show spDraw _ _ _ _ _); refine i_draw (by walk_at "sl") (by assumption) (by walk_at "hk") (by first | omega | (simp only [List.length_cons, List.length_nil, List.length_map] at *; omega)) (by first | omega | (simp only [List.length_cons, List.length_nil, List.length_map] at *; omega)) ?_) | ((with_reducible show spStart _ _ _ _ _); refine i_start (by walk_at "sl") (by assumption) ?_) | ((with_reducible refine i_seqN ?_); intro _ _) | ((with_reducible apply go_nx); (focus assumption)) | ((with_reducible apply go_np); (focus assumption)) | ((with_reducible show ite (_ = true) _ _); first | refine iteT ?_ | refine iteF ?_))
local macro_rules | `(tactic| walk_at "rd0") => `(tactic| (repeat walk_at "rd01"))
def top (i : Nat) : Stmt := PySem.Challenge.pw_widestparcels_k11_rows.main.body.getD i (.Pass ⟨0, 0, 0, 0⟩)
abbrev s_BadRow___init__ : Stmt := inClass (top 2) 0
abbrev s_is_integer : Stmt := top 4
abbrev s_is_row : Stmt := top 8
abbrev s_check_row : Stmt := top 9
abbrev s__law_start : Stmt := top 11
abbrev s__law_draw : Stmt := top 12
abbrev s__law_due : Stmt := top 13
abbrev s__law_told : Stmt := top 14
abbrev s__law_holds : Stmt := top 15
abbrev s_law : Stmt := top 16
abbrev N_is_integer : List Str := ["value"]
theorem sc_is_integer : FnScope N_is_integer ["value"] (defScope s_is_integer) := ⟨rfl, rfl, rfl, by decide +kernel, rfl, by decide +kernel, by decide +kernel⟩
abbrev N_is_row : List Str := ["value", "number"]
theorem sc_is_row : FnScope N_is_row ["value"] (defScope s_is_row) := ⟨rfl, rfl, rfl, by decide +kernel, rfl, by decide +kernel, by decide +kernel⟩
abbrev N_check_row : List Str := ["row"]
theorem sc_check_row : FnScope N_check_row ["row"] (defScope s_check_row) := ⟨rfl, rfl, rfl, by decide +kernel, rfl, by decide +kernel, by decide +kernel⟩
abbrev N__law_start : List Str := ["_law_script", "_law_first"]
theorem sc__law_start : FnScope N__law_start ["_law_script"] (defScope s__law_start) := ⟨rfl, rfl, rfl, by decide +kernel, rfl, by decide +kernel, by decide +kernel⟩
abbrev N__law_draw : List Str := ["_law_script", "_law_state", "_law_limit", "_law_number", "_law_cell", "_law_mixed"]
theorem sc__law_draw : FnScope N__law_draw ["_law_script", "_law_state", "_law_limit"] (defScope s__law_draw) := ⟨rfl, rfl, rfl, by decide +kernel, rfl, by decide +kernel, by decide +kernel⟩
abbrev N__law_due : List Str := ["_law_value", "_law_total", "_law_number"]
theorem sc__law_due : FnScope N__law_due ["_law_value"] (defScope s__law_due) := ⟨rfl, rfl, rfl, by decide +kernel, rfl, by decide +kernel, by decide +kernel⟩
abbrev N__law_told : List Str := ["_law_value", "e"]
theorem sc__law_told : FnScope N__law_told ["_law_value"] (defScope s__law_told) := ⟨rfl, rfl, rfl, by decide +kernel, rfl, by decide +kernel, by decide +kernel⟩
abbrev N__law_holds : List Str := ["_law_value", "_law_due_here"]
theorem sc__law_holds : FnScope N__law_holds ["_law_value"] (defScope s__law_holds) := ⟨rfl, rfl, rfl, by decide +kernel, rfl, by decide +kernel, by decide +kernel⟩
abbrev N_law : List Str := ["_law_script", "_law_state", "_law_k", "_law_numbers", "_law_odd", "_law_value", "_law_j"]
theorem sc_law : FnScope N_law ["_law_script"] (defScope s_law) := ⟨rfl, rfl, rfl, by decide +kernel, rfl, by decide +kernel, by decide +kernel⟩
/-- where the top's things stand -/
structure Ad where
  f_is_integer : Addr
  d_is_integer : FuncData
  f_is_row : Addr
  d_is_row : FuncData
  f_check_row : Addr
  d_check_row : FuncData
  f__law_start : Addr
  d__law_start : FuncData
  f__law_draw : Addr
  d__law_draw : FuncData
  f__law_due : Addr
  d__law_due : FuncData
  f__law_told : Addr
  d__law_told : FuncData
  f__law_holds : Addr
  d__law_holds : FuncData
  f_law : Addr
  d_law : FuncData
  C_ParcelError : Addr
  C_BadRow : Addr
  i_BadRow : Addr
/-- what the top has written -/
structure Txt (P : Program) (w : World) (K : PySem.W.Frag) (mg : Str → Option Value) (A : Ad) : Prop where
  F_is_integer : Fun K "is_integer" "is_integer" s_is_integer A.f_is_integer A.d_is_integer
  g_is_integer : mg "is_integer" = some (.ref A.f_is_integer)
  F_is_row : Fun K "is_row" "is_row" s_is_row A.f_is_row A.d_is_row
  g_is_row : mg "is_row" = some (.ref A.f_is_row)
  F_check_row : Fun K "check_row" "check_row" s_check_row A.f_check_row A.d_check_row
  g_check_row : mg "check_row" = some (.ref A.f_check_row)
  F__law_start : Fun K "_law_start" "_law_start" s__law_start A.f__law_start A.d__law_start
  g__law_start : mg "_law_start" = some (.ref A.f__law_start)
  F__law_draw : Fun K "_law_draw" "_law_draw" s__law_draw A.f__law_draw A.d__law_draw
  g__law_draw : mg "_law_draw" = some (.ref A.f__law_draw)
  F__law_due : Fun K "_law_due" "_law_due" s__law_due A.f__law_due A.d__law_due
  g__law_due : mg "_law_due" = some (.ref A.f__law_due)
  F__law_told : Fun K "_law_told" "_law_told" s__law_told A.f__law_told A.d__law_told
  g__law_told : mg "_law_told" = some (.ref A.f__law_told)
  F__law_holds : Fun K "_law_holds" "_law_holds" s__law_holds A.f__law_holds A.d__law_holds
  g__law_holds : mg "_law_holds" = some (.ref A.f__law_holds)
  F_law : Fun K "law" "law" s_law A.f_law A.d_law
  g_law : mg "law" = some (.ref A.f_law)
  g_ParcelError : mg "ParcelError" = some (.ref A.C_ParcelError)
  g_BadRow : mg "BadRow" = some (.ref A.C_BadRow)
  E_BadRow : WpE.ErrC P K A.C_BadRow A.i_BadRow "BadRow.__init__" (defArgs s_BadRow___init__) (defBody s_BadRow___init__) (defScope s_BadRow___init__)
  N_BadRow : WpE.ErrInit P w K mg A.C_BadRow A.i_BadRow ["value"]
  xf_BadRow : L2.XfC K A.C_BadRow
  ex_BadRow : L2.ExcC K A.C_BadRow
  nf_BadRow_value : PySem.W.findIn K (.ref A.C_BadRow) "value" = some none
  te_BadRow_BadRow : PySem.W.exmOne K (.ref A.C_BadRow) (.ref A.C_BadRow) = some true
  b_isinstance : mg "isinstance" = none
  b_int : mg "int" = none
  b_bool : mg "bool" = none
  b_len : mg "len" = none
  b_abs : mg "abs" = none
  b_range : mg "range" = none
  b_tuple : mg "tuple" = none
  b_list : mg "list" = none
  b_sum : mg "sum" = none
  c_MOST_LENGTH : ∃ u, mg "MOST_LENGTH" = some u ∧ RelV (.int 4) u
  c_MOST_SUM : ∃ u, mg "MOST_SUM" = some u ∧ RelV (.int 24) u
section
variable {P : Program} {w : World} {K : PySem.W.Frag} {mg : Str → Option Value} {base : Heap} {A : Ad}
def spIsInt (K : PySem.W.Frag) : Sp := fun vs H Q _ => ∃ (x : V) (t : String), vs = [x] ∧ Vk K H x t ∧ Q (.bl (isI x)) H
theorem ok_is_integer (T : Txt P w K mg A) : Cal P w K mg base 1 "is_integer" A.f_is_integer (spIsInt K) := by
  refine ⟨Fun.okR T.F_is_integer sc_is_integer (T.F_is_integer.binds fun _ _ _ _ _ _ us hl => match us, hl with | [_], _ => rfl) (fun vs H Q E h => ?_) (fun cdv A' outer s H vs Q E hr h => ?_), T.F_is_integer.kp, T.g_is_integer⟩
  · obtain ⟨_, _, rfl, _⟩ := h
    rfl
  · obtain ⟨x, t, rfl, hk', k⟩ := h
    refine ⟨_, (pss_one (ps_ret (pe_and (pe_callB call_isV (by rfl) T.b_isinstance (by decide +kernel) (pa_cons (pv 0) (pa_cons (pe_bltn (v := .ty "int") (u := .type "int") (by rfl) T.b_int (by decide +kernel) rfl) pa_nil))) (pe_one (pe_not (pe_callB call_isV (by rfl) T.b_isinstance (by decide +kernel) (pa_cons (pv 0) (pa_cons (pe_bltn (v := .ty "bool") (u := .type "bool") (by rfl) T.b_bool (by decide +kernel) rfl) pa_nil)))))))), ?_⟩
    simp only [L2.start, N_is_integer, cxOf, List.map_cons, List.map_nil, List.length_cons, List.length_nil, Nat.reduceAdd, Nat.reduceSub, List.replicate, List.cons_append, List.nil_append, List.append_nil]
    walk_at "rd"
    refine i_isV hk' (vk_int hk') ?_
    walk_at "rd"
    refine ifb (fun e => ?_) (fun e => ?_)
    · walk_at "rd"
      refine i_isV hk' (vk_bool hk') ?_
      walk_at "rd"
      have z : (!isB x) = isI x := by cases x <;> first | rfl | cases e
      rw [z]
      exact k
    · have z : isI x = false := by cases x <;> first | rfl | cases e
      rw [z] at k
      exact k
def numE : PyData → Bool
  | .int _ => true
  | .bool _ => true
  | .none => true
  | _ => false
def okE : PyData → Bool
  | .int i => decide (0 ≤ i)
  | _ => false
def valE : PyData → Int
  | .int i => i
  | _ => 0
def isRow : PyData → Bool
  | .tuple ds => decide (1 ≤ ds.length) && (decide (ds.length ≤ 4) && (ds.all okE && (decide (1 ≤ (ds.map valE).sum) && decide ((ds.map valE).sum ≤ 24))))
  | _ => false
def isTup : PyData → Bool
  | .tuple _ => true
  | _ => false
theorem vk_tup {K : PySem.W.Frag} {H : Hp} {v : V} {d : PyData} (h : Dp K H v d) : ∃ t, Vk K H v t ∧ kitB t "tuple" = some (isTup d) := by
  cases h with
  | non => exact ⟨_, .non, (by decide +kernel : kitB "NoneType" "tuple" = some false)⟩
  | bl b => exact ⟨_, .bl b, (by decide +kernel : kitB "bool" "tuple" = some false)⟩
  | int i => exact ⟨_, .int i, (by decide +kernel : kitB "int" "tuple" = some false)⟩
  | str x => exact ⟨_, .str x, (by decide +kernel : kitB "str" "tuple" = some false)⟩
  | lst h _ => exact ⟨_, .lst h, (by decide +kernel : kitB "list" "tuple" = some false)⟩
  | tup h _ => exact ⟨_, .tup h, (by decide +kernel : kitB "tuple" "tuple" = some true)⟩
theorem okE_ints : ∀ {ds : List PyData}, ds.all okE = true → ∃ ns : List Int, ds = dI ns ∧ (ds.map valE) = ns ∧ ∀ n ∈ ns, 0 ≤ n
  | [], _ => ⟨[], rfl, rfl, by simp⟩
  | d :: ds, h => by
    simp only [List.all_cons, Bool.and_eq_true] at h
    obtain ⟨ns, e1, e2, e3⟩ := okE_ints h.2
    cases d with
    | int i =>
      have h1 : 0 ≤ i := by simpa [okE] using h.1
      refine ⟨i :: ns, by rw [e1]; rfl, by simp [valE, e2], fun n z => ?_⟩
      rcases List.mem_cons.mp z with rfl | z
      · exact h1
      · exact e3 n z
    | _ => cases h.1
theorem all_take {α : Type} {p : α → Bool} {ds : List α} {i : Nat} {d : α} (h : (ds.take i).all p = true) (e : ds[i]? = some d) (k : p d = true) : (ds.take (i + 1)).all p = true := by
  rw [List.take_add_one, e]
  simp [h, k]
theorem all_bad {α : Type} {p : α → Bool} {ds : List α} {i : Nat} {d : α} (e : ds[i]? = some d) (k : p d = false) : ds.all p = false := by
  rw [List.all_eq_false]
  exact ⟨d, List.mem_of_getElem? e, by simp [k]⟩
def spIsRow (K : PySem.W.Frag) : Sp := fun vs H Q _ => ∃ (v : V) (d : PyData), vs = [v] ∧ Dp K H v d ∧ Q (.bl (isRow d)) H
theorem ok_is_row (T : Txt P w K mg A) : Cal P w K mg base 2 "is_row" A.f_is_row (spIsRow K) := by
  have c_is_integer := ok_is_integer (base := base) T
  refine ⟨Fun.okR T.F_is_row sc_is_row (T.F_is_row.binds fun _ _ _ _ _ _ us hl => match us, hl with | [_], _ => rfl) (fun vs H Q E h => ?_) (fun cdv A' outer s H vs Q E hr h => ?_), T.F_is_row.kp, T.g_is_row⟩
  · obtain ⟨_, _, rfl, _⟩ := h
    rfl
  · obtain ⟨v, d, rfl, hv, k⟩ := h
    refine ⟨_, (pss_cons (ps_if (PW.pt (pw_or (pt_not (pt_val (pe_callB call_isV (by rfl) T.b_isinstance (by decide +kernel) (pa_cons (pv 0) (pa_cons (pe_bltn (v := .ty "tuple") (u := .type "tuple") (by rfl) T.b_tuple (by decide +kernel) rfl) pa_nil))))) (pw_or (pt_cmp (pc_lt (pe_callB w_len (by rfl) T.b_len (by decide +kernel) (pa_cons (pv 0) pa_nil)) pe_int)) (pw_or1 (pt_cmp (pc_gt (pe_callB w_len (by rfl) T.b_len (by decide +kernel) (pa_cons (pv 0) pa_nil)) (C8.pe_gc (by rfl) T.c_MOST_LENGTH))))))) (pss_one (ps_ret pe_bl)) pss_nil)
          (pss_cons (ps_for (passes_of rfl) rfl (pi_tup (pv 0)) (pg_name (i := 1) sc_is_row.nd rfl (by first | exact Or.inl rfl | exact Or.inr rfl))
          (pss_one (ps_if (PW.pt (pw_or (pt_not (pt_val (pc_fn c_is_integer (hr.mono (by decide)) (takes_of rfl rfl rfl rfl) (pa_cons (pv 1) pa_nil)))) (pw_or1 (pt_cmp (pc_lt (pv 1) pe_int))))) (pss_one (ps_ret pe_bl)) pss_nil)))
          (pss_one (ps_ret (pe_chain op_le op_le pe_int (pe_callB (cr_sumT rfl) (by rfl) T.b_sum (by decide +kernel) (pa_cons (pv 0) pa_nil)) (C8.pe_gc (by rfl) T.c_MOST_SUM)))))), ?_⟩
    simp only [L2.start, N_is_row, cxOf, List.map_cons, List.map_nil, List.length_cons, List.length_nil, Nat.reduceAdd, Nat.reduceSub, List.replicate, List.cons_append, List.nil_append, List.append_nil]
    walk_at "rd"
    obtain ⟨t, kv, kt⟩ := vk_tup hv
    refine i_isV kv kt ?_
    walk_at "rd"
    cases d with
    | tuple ds =>
      obtain ⟨a, xs, rfl, hs, al⟩ := dp_tup hv
      have hl := DpAll.len al
      refine iteF ?_
      walk_at "rd"
      rw [hl]
      refine ifd (fun c1 => ?_) (fun c1 => ?_)
      · walk_at "rd"
        have z : isRow (.tuple ds) = false := by simp [isRow]; omega
        rw [z] at k
        exact k
      walk_at "rd"
      rw [hl]
      refine ifd (fun c2 => ?_) (fun c2 => ?_)
      · walk_at "rd"
        have z : isRow (.tuple ds) = false := by simp [isRow]; omega
        rw [z] at k
        exact k
      walk_at "rd"
      refine loop_T (xs := xs) (fun i σ H' => H' = H ∧ (∃ o1, σ = [some (.ref a), o1]) ∧ (ds.take i).all okE = true) ⟨rfl, ⟨_, rfl⟩, by simp⟩ (fun i σ H' _ h => h.1 ▸ hs) ?_ ?_
      · rintro i x σ H' N hx ⟨rfl, ⟨o1, rfl⟩, ha⟩ hN
        obtain ⟨e, he, hde⟩ := DpAll.at al hx
        obtain ⟨te, ke⟩ := Vk.of hde
        have bad : okE e = false → isRow (.tuple ds) = false := fun z => by simp [isRow, all_bad he z]
        walk_at "rd"
        refine ⟨x, te, rfl, ke, ?_⟩
        walk_at "rd"
        refine ifb (fun c3 => ?_) (fun c3 => ?_)
        · walk_at "rd"
          rw [bad (by cases hde <;> first | rfl | cases c3)] at k
          exact k
        obtain ⟨n, rfl⟩ := isI_int (by simpa using c3)
        obtain rfl : e = .int n := by cases hde; rfl
        walk_at "rd"
        refine ifd (fun c4 => ?_) (fun c4 => ?_)
        · walk_at "rd"
          rw [bad (by simp [okE]; omega)] at k
          exact k
        walk_at "rd"
        exact ⟨rfl, ⟨_, rfl⟩, all_take ha he (by simp [okE]; omega)⟩
      · rintro σ H' ⟨rfl, ⟨o1, rfl⟩, ha⟩
        rw [hl, List.take_length] at ha
        obtain ⟨ns, rfl, e2, e3⟩ := okE_ints ha
        rw [dpi al] at hs
        walk_at "rd"
        refine ⟨a, ns, rfl, hs, ?_⟩
        walk_at "rd"
        simp only [isRow, ha, e2, Bool.true_and] at k
        have y1 : decide (1 ≤ (dI ns).length) = true := by simp; omega
        have y2 : decide ((dI ns).length ≤ 4) = true := by simp; omega
        simp only [y1, y2, Bool.true_and] at k
        refine ifd (fun c5 => ?_) (fun c5 => ?_)
        · walk_at "rd"
          have y3 : decide (1 ≤ ns.sum) = true := by simpa using c5
          rw [y3, Bool.true_and] at k
          exact k
        · walk_at "rd"
          have y3 : decide (1 ≤ ns.sum) = false := by simpa using c5
          rw [y3, Bool.false_and] at k
          exact k
    | _ => exact k
def spCheckRow (K : PySem.W.Frag) (C : Addr) : Sp := fun vs H Q E => ∃ (v : V) (d : PyData), vs = [v] ∧ Dp K H v d ∧ (isRow d = true → Q v H) ∧ (isRow d = false → ∀ p, H p = none → E (.ref C) (some p) (upd H p (.xd [(("value" : Str), v)])))
theorem ok_check_row (T : Txt P w K mg A) : Cal P w K mg base 3 "check_row" A.f_check_row (spCheckRow K A.C_BadRow) := by
  have c_is_row := ok_is_row (base := base) T
  refine ⟨Fun.okR T.F_check_row sc_check_row (T.F_check_row.binds fun _ _ _ _ _ _ us hl => match us, hl with | [_], _ => rfl) (fun vs H Q E h => ?_) (fun cdv A' outer s H vs Q E hr h => ?_), T.F_check_row.kp, T.g_check_row⟩
  · obtain ⟨_, _, rfl, _⟩ := h
    rfl
  · obtain ⟨v, d, rfl, hv, k1, k2⟩ := h
    refine ⟨_, (pss_cons (ps_if (pt_not (pt_val (pc_fn c_is_row (hr.mono (by decide)) (takes_of rfl rfl rfl rfl) (pa_cons (pv 0) pa_nil)))) (pss_one (WpE.ps_raiseE rfl T.E_BadRow T.N_BadRow T.g_BadRow hr (by decide) (takes_of rfl rfl rfl rfl) (pa_cons (pv 0) pa_nil))) pss_nil)
          (pss_one (ps_ret (pv 0)))), ?_⟩
    simp only [L2.start, N_check_row, cxOf, List.map_cons, List.map_nil, List.length_cons, List.length_nil, Nat.reduceAdd, Nat.reduceSub, List.replicate, List.cons_append, List.nil_append, List.append_nil]
    walk_at "rd"
    refine ⟨v, d, rfl, hv, ?_⟩
    walk_at "rd"
    refine ifb (fun c => ?_) (fun c => ?_)
    · walk_at "rd"
      exact ⟨rfl, fun p hp => k2 (by simpa using c) p hp⟩
    · walk_at "rd"
      exact k1 (by simpa using c)
theorem ok__law_start (T : Txt P w K mg A) : Cal P w K mg base 1 "_law_start" A.f__law_start (spStart K) := by
  refine ⟨start_abs <| Fun.okR T.F__law_start sc__law_start (T.F__law_start.binds fun _ _ _ _ _ _ us hl => match us, hl with | [_], _ => rfl) (fun vs H Q E h => ?_) (fun cdv A' outer s H vs Q E hr h => ?_), T.F__law_start.kp, T.g__law_start⟩
  · obtain ⟨_, _, rfl, _⟩ := h
    rfl
  · obtain ⟨a, ns, rfl, hS, hl, k⟩ := h
    refine ⟨_, (pss_cons (ps_set (i := 1) sc__law_start.nd rfl (by first | exact Or.inl rfl | exact Or.inr rfl) pe_int)
          (pss_cons (ps_if (pt_cmp (pc_gt (pe_callB w_len (by rfl) T.b_len (by decide +kernel) (pa_cons (pv 0) pa_nil)) pe_int)) (pss_one (ps_set (i := 1) sc__law_start.nd rfl (by first | exact Or.inl rfl | exact Or.inr rfl) (pe_ix ix_list (pv 0) pe_int (fun _ _ => rfl)))) pss_nil)
          (pss_one (ps_ret (pe_lst (pa_cons (pe_callB w_abs (by rfl) T.b_abs (by decide +kernel) (pa_cons (pe_callTy w_int (by rfl) T.b_int (by decide +kernel) (pa_cons (pv 1) pa_nil)) pa_nil)) (pa_cons (pe_callTy w_int (by rfl) T.b_int (by decide +kernel) (pa_cons (pe_cmp (pc_ge (pe_callB w_abs (by rfl) T.b_abs (by decide +kernel) (pa_cons (pe_callTy w_int (by rfl) T.b_int (by decide +kernel) (pa_cons (pv 1) pa_nil)) pa_nil)) (pe_op op_pow pe_int pe_int)) rfl) pa_nil)) (pa_cons pe_int (pa_cons pe_int pa_nil))))))))), ?_⟩
    simp only [L2.start, N__law_start, cxOf, List.map_cons, List.map_nil, List.length_cons, List.length_nil, Nat.reduceAdd, Nat.reduceSub, List.replicate, List.cons_append, List.nil_append, List.append_nil]
    walk_at "rd0"
    cases ns with
    | nil =>
      walk_at "rd0"
      exact ⟨sz (by simp only [List.length_cons, List.length_nil]; omega), fun p hp => k p _ _ _ _ hp⟩
    | cons n0 ns =>
      walk_at "rd"
      refine ifd (fun _ => ?_) (fun e => absurd e (by simp))
      walk_at "rd0"
      exact ⟨sz (by simp only [List.length_cons, List.length_nil]; omega), fun p hp => k p _ _ _ _ hp⟩
theorem ok__law_draw (T : Txt P w K mg A) : Cal P w K mg base 1 "_law_draw" A.f__law_draw (spDraw K) := by
  refine ⟨draw_abs <| Fun.okR T.F__law_draw sc__law_draw (T.F__law_draw.binds fun _ _ _ _ _ _ us hl => match us, hl with | [_, _, _], _ => rfl) (fun vs H Q E h => ?_) (fun cdv A' outer s H vs Q E hr h => ?_), T.F__law_draw.kp, T.g__law_draw⟩
  · obtain ⟨_, _, _, _, _, _, _, _, rfl, _⟩ := h
    rfl
  · obtain ⟨a, st, ns, n, x0, x1, x2, x3, rfl, hS, hl, hst, n0, n1, k⟩ := h
    refine ⟨_, (pss_cons (ps_asg (pe_op op_add (pe_ix ix_list (pv 1) pe_int (fun _ _ => rfl)) pe_int) (pg_sub (pv 1) pe_int set_list))
          (pss_cons (ps_if (PW.pt (pw_and (pt_cmp (pc_eqI (pe_ix ix_list (pv 1) pe_int (fun _ _ => rfl)) pe_int)) (pw_and1 (pt_cmp (pc_gt (pe_ix ix_list (pv 1) pe_int (fun _ _ => rfl)) pe_int))))) (pss_cons (ps_set (i := 3) sc__law_draw.nd rfl (by first | exact Or.inl rfl | exact Or.inr rfl) (pe_op op_mod (pe_callTy w_int (by rfl) T.b_int (by decide +kernel) (pa_cons (pe_ix ix_list (pv 1) pe_int (fun _ _ => rfl)) pa_nil)) (pv 2)))
          (pss_cons (ps_asg (pe_op op_fdiv (pe_ix ix_list (pv 1) pe_int (fun _ _ => rfl)) (pv 2)) (pg_sub (pv 1) pe_int set_list))
          (pss_one (ps_ret (pv 3))))) pss_nil)
          (pss_cons (ps_asg pe_int (pg_sub (pv 1) pe_int set_list))
          (pss_cons (ps_set (i := 4) sc__law_draw.nd rfl (by first | exact Or.inl rfl | exact Or.inr rfl) pe_int)
          (pss_cons (ps_if (pt_cmp (pc_gt (pe_callB w_len (by rfl) T.b_len (by decide +kernel) (pa_cons (pv 0) pa_nil)) pe_int)) (pss_one (ps_set (i := 4) sc__law_draw.nd rfl (by first | exact Or.inl rfl | exact Or.inr rfl) (pe_ix ix_list (pv 0) (pe_op op_mod (pe_callTy w_int (by rfl) T.b_int (by decide +kernel) (pa_cons (pe_ix ix_list (pv 1) pe_int (fun _ _ => rfl)) pa_nil)) (pe_callB w_len (by rfl) T.b_len (by decide +kernel) (pa_cons (pv 0) pa_nil))) (fun _ _ => rfl)))) pss_nil)
          (pss_cons (ps_asg (pe_op op_add (pe_ix ix_list (pv 1) pe_int (fun _ _ => rfl)) pe_int) (pg_sub (pv 1) pe_int set_list))
          (pss_cons (ps_set (i := 5) sc__law_draw.nd rfl (by first | exact Or.inl rfl | exact Or.inr rfl) (pe_op op_mul (pe_op op_mod (pe_callTy w_int (by rfl) T.b_int (by decide +kernel) (pa_cons (pe_ix ix_list (pv 1) pe_int (fun _ _ => rfl)) pa_nil)) pe_int) pe_int))
          (pss_cons (ps_set (i := 5) sc__law_draw.nd rfl (by first | exact Or.inl rfl | exact Or.inr rfl) (pe_op op_add (pe_op op_add (pe_op op_add (pv 5) (pe_op op_mod (pe_callTy w_int (by rfl) T.b_int (by decide +kernel) (pa_cons (pv 4) pa_nil)) pe_int)) (pe_op op_mul pe_int (pe_ix ix_list (pv 1) pe_int (fun _ _ => rfl)))) pe_int))
          (pss_cons (ps_asg (pe_op op_mod (pe_callTy w_int (by rfl) T.b_int (by decide +kernel) (pa_cons (pv 5) pa_nil)) pe_int) (pg_sub (pv 1) pe_int set_list))
          (pss_cons (ps_set (i := 5) sc__law_draw.nd rfl (by first | exact Or.inl rfl | exact Or.inr rfl) (pe_op op_mod (pe_callTy w_int (by rfl) T.b_int (by decide +kernel) (pa_cons (pe_op op_add (pe_op op_mul (pe_ix ix_list (pv 1) pe_int (fun _ _ => rfl)) pe_int) (pe_ix ix_list (pv 1) pe_int (fun _ _ => rfl))) pa_nil)) pe_int))
          (pss_one (ps_ret (pe_op op_mod (pe_callTy w_int (by rfl) T.b_int (by decide +kernel) (pa_cons (pe_op op_fdiv (pv 5) pe_int) pa_nil)) (pv 2)))))))))))))), ?_⟩
    simp only [L2.start, N__law_draw, cxOf, List.map_cons, List.map_nil, List.length_cons, List.length_nil, Nat.reduceAdd, Nat.reduceSub, List.replicate, List.cons_append, List.nil_append, List.append_nil]
    walk_at "rd"
    refine ifd (fun e1 => ?_) (fun e1 => ?_)
    · walk_at "rd"
      refine ifd (fun e2 => ?_) (fun e2 => ?_)
      · walk_at "rd"
        exact k _ _ _ _ _ (Int.emod_nonneg _ (by omega)) (Int.emod_lt_of_pos _ n0)
      · walk_at "rd"
        refine ifd (fun e3 => ?_) (fun e3 => ?_)
        · walk_at "rd"
          rw [List.length_map] at e3 ⊢
          obtain ⟨z, ez, _⟩ := at_ints (ns := ns) (Int.emod_nonneg x2 (show (ns.length : Int) ≠ 0 by omega)) (Int.emod_lt_of_pos x2 e3)
          refine i_ixL (hS _) ez ?_
          walk_at "rd"
          exact k _ _ _ _ _ (Int.emod_nonneg _ (by omega)) (Int.emod_lt_of_pos _ n0)
        · walk_at "rd"
          exact k _ _ _ _ _ (Int.emod_nonneg _ (by omega)) (Int.emod_lt_of_pos _ n0)
    · walk_at "rd"
      refine ifd (fun e3 => ?_) (fun e3 => ?_)
      · walk_at "rd"
        rw [List.length_map] at e3 ⊢
        obtain ⟨z, ez, _⟩ := at_ints (ns := ns) (Int.emod_nonneg x2 (show (ns.length : Int) ≠ 0 by omega)) (Int.emod_lt_of_pos x2 e3)
        refine i_ixL (hS _) ez ?_
        walk_at "rd"
        exact k _ _ _ _ _ (Int.emod_nonneg _ (by omega)) (Int.emod_lt_of_pos _ n0)
      · walk_at "rd"
        exact k _ _ _ _ _ (Int.emod_nonneg _ (by omega)) (Int.emod_lt_of_pos _ n0)
def spDue (K : PySem.W.Frag) : Sp := fun vs H Q _ => ∃ (v : V) (d : PyData), vs = [v] ∧ Dp K H v d ∧ (∀ ds, d = .tuple ds → ds.all numE = true) ∧ Q (.bl (isRow d)) H
theorem ok__law_due (T : Txt P w K mg A) : Cal P w K mg base 1 "_law_due" A.f__law_due (spDue K) := by
  refine ⟨Fun.okR T.F__law_due sc__law_due (T.F__law_due.binds fun _ _ _ _ _ _ us hl => match us, hl with | [_], _ => rfl) (fun vs H Q E h => ?_) (fun cdv A' outer s H vs Q E hr h => ?_), T.F__law_due.kp, T.g__law_due⟩
  · obtain ⟨_, _, rfl, _⟩ := h
    rfl
  · obtain ⟨v, d, rfl, hv, hnum, k⟩ := h
    refine ⟨_, (pss_cons (ps_if (PW.pt (pw_or (pt_not (pt_val (pe_callB call_isV (by rfl) T.b_isinstance (by decide +kernel) (pa_cons (pv 0) (pa_cons (pe_bltn (v := .ty "tuple") (u := .type "tuple") (by rfl) T.b_tuple (by decide +kernel) rfl) pa_nil))))) (pw_or (pt_cmp (pc_lt (pe_callB w_len (by rfl) T.b_len (by decide +kernel) (pa_cons (pv 0) pa_nil)) pe_int)) (pw_or1 (pt_cmp (pc_gt (pe_callB w_len (by rfl) T.b_len (by decide +kernel) (pa_cons (pv 0) pa_nil)) pe_int)))))) (pss_one (ps_ret pe_bl)) pss_nil)
          (pss_cons (ps_set (i := 1) sc__law_due.nd rfl (by first | exact Or.inl rfl | exact Or.inr rfl) pe_int)
          (pss_cons (ps_for (passes_of rfl) rfl (pi_tup (pv 0)) (pg_name (i := 2) sc__law_due.nd rfl (by first | exact Or.inl rfl | exact Or.inr rfl))
          (pss_cons (ps_if (PW.pt (pw_or (pt_cmp (pc_isN (pv 2))) (pw_or (pt_val (pe_callB call_isV (by rfl) T.b_isinstance (by decide +kernel) (pa_cons (pv 2) (pa_cons (pe_bltn (v := .ty "bool") (u := .type "bool") (by rfl) T.b_bool (by decide +kernel) rfl) pa_nil)))) (pw_or1 (pt_cmp (pc_lt (pv 2) pe_int)))))) (pss_one (ps_ret pe_bl)) pss_nil)
          (pss_one (ps_set (i := 1) sc__law_due.nd rfl (by first | exact Or.inl rfl | exact Or.inr rfl) (pe_op op_add (pv 1) (pv 2))))))
          (pss_one (ps_ret (pe_chain op_le op_le pe_int (pv 1) pe_int)))))), ?_⟩
    simp only [L2.start, N__law_due, cxOf, List.map_cons, List.map_nil, List.length_cons, List.length_nil, Nat.reduceAdd, Nat.reduceSub, List.replicate, List.cons_append, List.nil_append, List.append_nil]
    walk_at "rd"
    obtain ⟨t, kv, kt⟩ := vk_tup hv
    refine i_isV kv kt ?_
    walk_at "rd"
    cases d with
    | tuple ds =>
      obtain ⟨a, xs, rfl, hs, al⟩ := dp_tup hv
      have hl := DpAll.len al
      refine iteF ?_
      walk_at "rd"
      rw [hl]
      refine ifd (fun c1 => ?_) (fun c1 => ?_)
      · walk_at "rd"
        have z : isRow (.tuple ds) = false := by simp [isRow]; omega
        rw [z] at k
        exact k
      walk_at "rd"
      rw [hl]
      refine ifd (fun c2 => ?_) (fun c2 => ?_)
      · walk_at "rd"
        have z : isRow (.tuple ds) = false := by simp [isRow]; omega
        rw [z] at k
        exact k
      walk_at "rd"
      refine loop_T (xs := xs) (fun i σ H' => H' = H ∧ (∃ o1, σ = [some (.ref a), some (.int ((ds.take i).map valE).sum), o1]) ∧ (ds.take i).all okE = true) ⟨rfl, ⟨_, rfl⟩, by simp⟩ (fun i σ H' _ h => h.1 ▸ hs) ?_ ?_
      · rintro i x σ H' N hx ⟨rfl, ⟨o1, rfl⟩, ha⟩ hN
        obtain ⟨e, he, hde⟩ := DpAll.at al hx
        obtain ⟨te, ke⟩ := Vk.of hde
        have hne : numE e = true := List.all_eq_true.mp (hnum ds rfl) e (List.mem_of_getElem? he)
        have bad : okE e = false → isRow (.tuple ds) = false := fun z => by simp [isRow, all_bad he z]
        walk_at "rd"
        cases hde with
        | non =>
          refine iteT ?_
          walk_at "rd"
          rw [bad rfl] at k
          exact k
        | bl b =>
          refine iteF ?_
          walk_at "rd"
          rw [bad rfl] at k
          exact k
        | int n =>
          refine iteF ?_
          walk_at "rd"
          refine ifd (fun c4 => ?_) (fun c4 => ?_)
          · walk_at "rd"
            rw [bad (by simp [okE]; omega)] at k
            exact k
          walk_at "rd"
          refine ⟨rfl, ⟨some (.int n), ?_⟩, all_take ha he (by simp [okE]; omega)⟩
          rw [List.take_add_one, he]
          simp [valE]
        | str x => cases hne
        | lst _ _ => cases hne
        | tup _ _ => cases hne
      · rintro σ H' ⟨rfl, ⟨o1, rfl⟩, ha⟩
        rw [hl, List.take_length] at ha ⊢
        walk_at "rd"
        simp only [isRow, ha, Bool.true_and] at k
        have y1 : decide (1 ≤ ds.length) = true := by simp; omega
        have y2 : decide (ds.length ≤ 4) = true := by simp; omega
        simp only [y1, y2, Bool.true_and] at k
        refine ifd (fun c5 => ?_) (fun c5 => ?_)
        · walk_at "rd"
          have y3 : decide (1 ≤ (ds.map valE).sum) = true := by simpa using c5
          rw [y3, Bool.true_and] at k
          exact k
        · walk_at "rd"
          have y3 : decide (1 ≤ (ds.map valE).sum) = false := by simpa using c5
          rw [y3, Bool.false_and] at k
          exact k
    | _ => exact k
def spTold (K : PySem.W.Frag) : Sp := fun vs H Q _ => ∃ (v : V) (d : PyData), vs = [v] ∧ Dp K H v d ∧ (isRow d = true → Q v H) ∧ (isRow d = false → ∀ H' p, Ext H H' → H' p = some (.tup [.str "bad", v]) → Q (.ref p) H')
theorem ok__law_told (T : Txt P w K mg A) : Cal P w K mg base 4 "_law_told" A.f__law_told (spTold K) := by
  have c_check_row := ok_check_row (base := base) T
  refine ⟨Fun.okR T.F__law_told sc__law_told (T.F__law_told.binds fun _ _ _ _ _ _ us hl => match us, hl with | [_], _ => rfl) (fun vs H Q E h => ?_) (fun cdv A' outer s H vs Q E hr h => ?_), T.F__law_told.kp, T.g__law_told⟩
  · obtain ⟨_, _, rfl, _⟩ := h
    rfl
  · obtain ⟨v, d, rfl, hv, k1, k2⟩ := h
    refine ⟨_, (pss_one (ps_try_as (i := 1) rfl rfl sc__law_told.nd rfl rfl ⟨rfl, by decide, Or.inl T.g_BadRow⟩ (takes_of rfl rfl rfl rfl) (fun W pn xe tk pp => (pss_one (ps_ret (pc_fn c_check_row (hr.mono (by decide)) tk (pa_cons (pv 0) pa_nil)))))
          (fun a oe cls d pn hz hf => (pss_one (ps_ret (pe_tup (pa_cons pe_str (pa_cons (pe_xf T.xf_BadRow T.nf_BadRow_value hz hf (pv 1)) pa_nil)))))))), ?_⟩
    simp only [L2.start, N__law_told, cxOf, List.map_cons, List.map_nil, List.length_cons, List.length_nil, Nat.reduceAdd, Nat.reduceSub, List.replicate, List.cons_append, List.nil_append, List.append_nil]
    walk_at "rd"
    refine ⟨v, d, rfl, hv, fun e => k1 e, fun e p hp => ?_⟩
    refine ⟨true, T.te_BadRow_BadRow, fun _ a ha => ?_, fun q => nomatch q⟩
    walk_at "rd"
    exact fun p H2 np e2 h2 => k2 e _ _ ((Ext.new (Ext.refl _) hp).trans e2) h2
def spHolds (K : PySem.W.Frag) : Sp := fun vs H Q _ => ∃ (v : V) (d : PyData), vs = [v] ∧ Dp K H v d ∧ Sh 10 d ∧ (∀ ds, d = .tuple ds → ds.all numE = true) ∧ ∀ H', Ext H H' → Q (.bl true) H'
theorem ok__law_holds (T : Txt P w K mg A) : Cal P w K mg base 5 "_law_holds" A.f__law_holds (spHolds K) := by
  have c__law_due := ok__law_due (base := base) T
  have c_is_row := ok_is_row (base := base) T
  have c__law_told := ok__law_told (base := base) T
  refine ⟨Fun.okR T.F__law_holds sc__law_holds (T.F__law_holds.binds fun _ _ _ _ _ _ us hl => match us, hl with | [_], _ => rfl) (fun vs H Q E h => ?_) (fun cdv A' outer s H vs Q E hr h => ?_), T.F__law_holds.kp, T.g__law_holds⟩
  · obtain ⟨_, _, rfl, _⟩ := h
    rfl
  · obtain ⟨v, d, rfl, hv, sh, hnum, k⟩ := h
    refine ⟨_, (pss_cons (ps_set (i := 1) sc__law_holds.nd rfl (by first | exact Or.inl rfl | exact Or.inr rfl) (pc_fn c__law_due (hr.mono (by decide)) (takes_of rfl rfl rfl rfl) (pa_cons (pv 0) pa_nil)))
          (pss_cons (ps_if (PW.pt (pw_or (pt_cmpR (op_neD hr.units) (pc_fn c_is_row (hr.mono (by decide)) (takes_of rfl rfl rfl rfl) (pa_cons (pv 0) pa_nil)) (pv 1) (nomark _)) (pw_or1 (pt_not (pt_val (pe_callB call_isV (by rfl) T.b_isinstance (by decide +kernel) (pa_cons (pc_fn c_is_row (hr.mono (by decide)) (takes_of rfl rfl rfl rfl) (pa_cons (pv 0) pa_nil)) (pa_cons (pe_bltn (v := .ty "bool") (u := .type "bool") (by rfl) T.b_bool (by decide +kernel) rfl) pa_nil)))))))) (pss_one (ps_ret pe_bl)) pss_nil)
          (pss_cons (ps_if (pt_val (pv 1)) (pss_one (ps_ret (pe_cmpR (op_eqD hr.units) (pc_fn c__law_told (hr.mono (by decide)) (takes_of rfl rfl rfl rfl) (pa_cons (pv 0) pa_nil)) (pv 0) (nomark _)))) pss_nil)
          (pss_one (ps_ret (pe_cmpR (op_eqD hr.units) (pc_fn c__law_told (hr.mono (by decide)) (takes_of rfl rfl rfl rfl) (pa_cons (pv 0) pa_nil)) (pe_tup (pa_cons pe_str (pa_cons (pv 0) pa_nil))) (nomark _))))))), ?_⟩
    simp only [L2.start, N__law_holds, cxOf, List.map_cons, List.map_nil, List.length_cons, List.length_nil, Nat.reduceAdd, Nat.reduceSub, List.replicate, List.cons_append, List.nil_append, List.append_nil]
    walk_at "rd"
    refine ⟨v, d, rfl, hv, hnum, ?_⟩
    walk_at "rd"
    refine ⟨v, d, rfl, hv, ?_⟩
    walk_at "rd"
    refine i_neSelf (.bl _) (.bl _) (by walk_at "shd") ?_
    walk_at "rd"
    refine ⟨v, d, rfl, hv, ?_⟩
    walk_at "rd"
    refine ifb (fun c => ?_) (fun c => ?_)
    · walk_at "rd"
      refine ⟨v, d, rfl, hv, fun _ => ?_, fun z => absurd z (by rw [c]; decide)⟩
      walk_at "rd"
      refine i_eqSelf hv hv (Wp.shd (sh.mono (by decide))) ?_
      exact k _ (Ext.refl _)
    · walk_at "rd"
      refine ⟨v, d, rfl, hv, fun z => absurd z (by rw [c]; decide), fun _ H1 p e1 h1 => ?_⟩
      walk_at "rd"
      intro p2 H2 n2 e2 h2
      walk_at "rd"
      refine i_eqSelf (d := .tuple [.str "bad", d]) (by walk_at "dp") (by walk_at "dp") (Wp.shd (sh_tup (sha_cons (sh_str (by decide +kernel)) (sha_cons (sh.mono (by decide)) sha_nil)))) ?_
      exact k _ (e1.trans e2)
def spLaw (K : PySem.W.Frag) : Sp := fun vs H Q _ => ∃ (a : Addr) (ns : List Int), vs = [.ref a] ∧ SqL K H a (ns.map V.int) ∧ ns.length ≤ 63 ∧ ∀ H', Q (.bl true) H'
def numV : V → Bool
  | .int _ => true
  | .bl _ => true
  | .non => true
  | _ => false
theorem numV_S {v : V} (h : numV v = true) : isS v = true := by cases v <;> first | rfl | cases h
theorem numV_E {v : V} (h : numV v = true) : numE (scD v) = true := by cases v <;> first | rfl | cases h
theorem numV_Sh {v : V} (h : numV v = true) : Sh 1 (scD v) := by
  cases v with
  | int i => exact sh_int
  | bl b => exact sh_bl
  | non => exact sh_non
  | _ => cases h
theorem all_S {vs : List V} (h : vs.all numV = true) : vs.all isS = true := List.all_eq_true.mpr fun v z => numV_S (List.all_eq_true.mp h v z)
theorem all_E {vs : List V} (h : vs.all numV = true) : (vs.map scD).all numE = true := by
  rw [List.all_map]
  exact List.all_eq_true.mpr fun v z => numV_E (List.all_eq_true.mp h v z)
theorem all_Sh {vs : List V} (h : vs.all numV = true) : ShA 1 (vs.map scD) := sha_of fun d z => by
  obtain ⟨v, hv, rfl⟩ := List.mem_map.mp z
  exact numV_Sh (List.all_eq_true.mp h v hv)
theorem all_set {vs : List V} {j : Nat} {v : V} (h : vs.all numV = true) (k : numV v = true) : (vs.set j v).all numV = true := List.all_eq_true.mpr fun x z => by
  rcases List.mem_or_eq_of_mem_set z with z | rfl
  · exact List.all_eq_true.mp h x z
  · exact k
theorem ok_law (T : Txt P w K mg A) : FnOk P w K mg base (L2.CX P w) 6 A.f_law A.d_law ["_law_script"] (spLaw K) := by
  have c__law_start := ok__law_start (base := base) T
  have c__law_draw := ok__law_draw (base := base) T
  have c__law_holds := ok__law_holds (base := base) T
  refine T.F_law.okX sc_law (fun vs H Q E h => ?_) (fun cdv A' outer s H vs Q E hr h => ?_)
  · obtain ⟨_, _, rfl, _⟩ := h
    rfl
  · obtain ⟨a, ns, rfl, hS, hl, k⟩ := h
    refine ⟨_, (pss_cons (ps_set (i := 1) sc_law.nd rfl (by first | exact Or.inl rfl | exact Or.inr rfl) (pc_fn c__law_start (hr.mono (by decide)) (takes_of rfl rfl rfl rfl) (pa_cons (pv 0) pa_nil)))
          (pss_cons (ps_for (passes_of rfl) rfl (pi_range1 (by rfl) T.b_range (pa_cons pe_int pa_nil)) (pg_name (i := 2) sc_law.nd rfl (by first | exact Or.inl rfl | exact Or.inr rfl))
          (pss_cons (ps_setLc (i := 3) (own := [("_law_j", 6)]) (g := gName 6) (by rfl) sc_law.nd rfl rfl (sw_true rfl rfl rfl (by decide +kernel)) (pi_range1 (by rfl) T.b_range (pa_cons (pc_fn c__law_draw (hr.mono (by decide)) (takes_of rfl rfl rfl rfl) (pa_cons (pv 0) (pa_cons (pv 1) (pa_cons pe_int pa_nil)))) pa_nil)) (blkOk_by (own := [("_law_j", 6)]) (N := N_law) (sc := defScope s_law) (by decide +kernel)) (fun _ _ _ _ _ => (pg_name (i := 6) sc_law.nd rfl (by first | exact Or.inl rfl | exact Or.inr rfl))) (fun _ _ _ _ _ => pts_nil) (fun _ _ _ _ _ => (pc_fn c__law_draw (hr.mono (by decide)) takes0 (pa_cons (pv 0) (pa_cons (pv 1) (pa_cons pe_int pa_nil))))))
          (pss_cons (ps_if (PW.pt (pw_and (pt_cmp (pc_gt (pe_callB w_len (by rfl) T.b_len (by decide +kernel) (pa_cons (pv 3) pa_nil)) pe_int)) (pw_and1 (pt_cmp (pc_eqI (pc_fn c__law_draw (hr.mono (by decide)) (takes_of rfl rfl rfl rfl) (pa_cons (pv 0) (pa_cons (pv 1) (pa_cons pe_int pa_nil)))) pe_int))))) (pss_cons (ps_set (i := 4) sc_law.nd rfl (by first | exact Or.inl rfl | exact Or.inr rfl) (pe_lst (pa_cons (pe_un un_neg pe_int) (pa_cons pe_bl (pa_cons pe_non (pa_cons pe_int (pa_cons pe_int (pa_cons pe_int (pa_cons (pe_op op_pow pe_int pe_int) (pa_cons (pe_un un_neg (pe_op op_pow pe_int pe_int)) pa_nil))))))))))
          (pss_one (ps_asg (pe_ix ix_list (pv 4) (pc_fn c__law_draw (hr.mono (by decide)) (takes_of rfl rfl rfl rfl) (pa_cons (pv 0) (pa_cons (pv 1) (pa_cons (pe_callB w_len (by rfl) T.b_len (by decide +kernel) (pa_cons (pv 4) pa_nil)) pa_nil)))) (fun _ _ => rfl)) (pg_sub (pv 3) (pc_fn c__law_draw (hr.mono (by decide)) (takes_of rfl rfl rfl rfl) (pa_cons (pv 0) (pa_cons (pv 1) (pa_cons (pe_callB w_len (by rfl) T.b_len (by decide +kernel) (pa_cons (pv 3) pa_nil)) pa_nil)))) set_list)))) pss_nil)
          (pss_one (ps_if (PW.pt (pw_or (pt_not (pt_val (pc_fn c__law_holds (hr.mono (by decide)) (takes_of rfl rfl rfl rfl) (pa_cons (pe_callTy w_tuple (by rfl) T.b_tuple (by decide +kernel) (pa_cons (pv 3) pa_nil)) pa_nil)))) (pw_or1 (pt_not (pt_val (pc_fn c__law_holds (hr.mono (by decide)) (takes_of rfl rfl rfl rfl) (pa_cons (pe_callTy w_list (by rfl) T.b_list (by decide +kernel) (pa_cons (pv 3) pa_nil)) pa_nil))))))) (pss_one (ps_ret pe_bl)) pss_nil)))))
          (pss_cons (ps_for (passes_of rfl) rfl (pi_list (pe_lst (pa_cons (pe_tup (pa_cons pe_int pa_nil)) (pa_cons (pe_tup (pa_cons pe_int pa_nil)) (pa_cons (pe_tup (pa_cons pe_int pa_nil)) (pa_cons (pe_tup (pa_cons pe_int (pa_cons pe_int (pa_cons pe_int (pa_cons pe_int pa_nil))))) (pa_cons (pe_tup (pa_cons pe_int (pa_cons pe_int (pa_cons pe_int (pa_cons pe_int pa_nil))))) (pa_cons (pe_tup (pa_cons pe_int (pa_cons pe_int (pa_cons pe_int (pa_cons pe_int pa_nil))))) (pa_cons (pe_tup (pa_cons pe_int (pa_cons pe_int pa_nil))) (pa_cons (pe_tup (pa_cons pe_int (pa_cons pe_int pa_nil))) (pa_cons pe_non (pa_cons pe_int (pa_cons pe_str pa_nil))))))))))))) (pg_name (i := 5) sc_law.nd rfl (by first | exact Or.inl rfl | exact Or.inr rfl))
          (pss_one (ps_if (pt_not (pt_val (pc_fn c__law_holds (hr.mono (by decide)) (takes_of rfl rfl rfl rfl) (pa_cons (pv 5) pa_nil)))) (pss_one (ps_ret pe_bl)) pss_nil)))
          (pss_one (ps_ret pe_bl))))), ?_⟩
    simp only [L2.start, N_law, cxOf, List.map_cons, List.map_nil, List.length_cons, List.length_nil, Nat.reduceAdd, Nat.reduceSub, List.replicate, List.cons_append, List.nil_append, List.append_nil]
    walk_at "rd"
    intro st H1 nst e1 hst
    walk_at "rd"
    refine loop_R (n := 8) (fun i σ H' => Ext H1 H' ∧ ∃ o2 o3 o4 o5 o6, σ = [some (.ref a), some (.ref st), o2, o3, o4, o5, o6]) ⟨Ext.refl _, _, _, _, _, _, rfl⟩ ?_ ?_
    · rintro i σ H2 N hi ⟨e2, o2, o3, o4, o5, o6, rfl⟩ hN
      walk_at "rd"
      intro r1 a1 b1
      walk_at "rd"
      refine lc_dat (K := K) walk_range (by omega) (fun _ _ => trivial) (fun j ds => ∃ ms : List Int, ds = dI ms ∧ ms.length = j) ⟨[], rfl, rfl⟩ ?_ ?_
      · rintro j x Hc Hx ds hj ec ⟨rfl, rfl⟩ ⟨ms, rfl, hm⟩ Y1 N1 k1 k2
        walk_at "rd"
        intro r a2 b2
        walk_at "rd"
        exact k1 _ _ (.int r) ⟨ms ++ [r], by simp [dI], by simp [hm]⟩ rfl (Ext.refl _) (.int r)
      rintro D H3 ys ds nD eD hD al ⟨ms, rfl, hm⟩
      obtain rfl := dpi al
      walk_at "rd"
      rename_i N2 hN2
      have hJ : Np N2 (fun σ' H' => ∃ D ys o4, Ext H1 H' ∧ σ' = [some (.ref a), some (.ref st), some (.int (0 + i)), some (.ref D), o4, o5, o6] ∧ H' D = some (.lst ys) ∧ ys.all numV = true ∧ ys.length ≤ 5) := by
        rintro σ' H4 ⟨D, ys, o4, e4, rfl, hD, hn, hl'⟩
        refine go_nx hN2 ?_
        walk_at "rd"
        intro t H5 nt e5 ht
        walk_at "rd"
        refine ⟨.ref t, .tuple (ys.map scD), rfl, dpT ht (sc_dps (all_S hn)), sh_tup ((all_Sh hn).mono (by decide)), (fun ds e => by cases e; exact all_E hn), fun H6 e6 => ?_⟩
        walk_at "rd"
        intro l H7 nl e7 hl7
        walk_at "rd"
        refine ⟨.ref l, .list (ys.map scD), rfl, dpL hl7 (sc_dps (all_S hn)), sh_lst ((all_Sh hn).mono (by decide)), (fun ds e => by cases e), fun H8 e8 => ?_⟩
        walk_at "rd"
        exact ⟨(((e4.trans e5).trans e6).trans e7).trans e8, _, _, _, _, _, rfl⟩
      clear hN2
      have hnm : (ms.map V.int).all numV = true := by
        rw [List.all_map]
        exact List.all_eq_true.mpr fun _ _ => rfl
      have hlm : (ms.map V.int).length = r1.toNat := by rw [List.length_map, hm]
      rw [hlm]
      refine ifd (fun c1 => ?_) (fun c1 => ?_)
      · walk_at "rd"
        intro r2 a2 b2
        walk_at "rd"
        refine ifd (fun c2 => ?_) (fun c2 => ?_)
        · walk_at "rd"
          intro p H4 np e4 hp
          walk_at "rd"
          intro r3 a3 b3
          obtain ⟨v, ev, nv⟩ := at_all (P := fun v => numV v = true) (xs := [V.int (-1), V.bl true, V.non, V.int 24, V.int 25, V.int 0, V.int (10 ^ Int.toNat 20), V.int (-10 ^ Int.toNat 20)]) (by simp only [List.mem_cons, List.not_mem_nil, or_false]; rintro x (rfl | rfl | rfl | rfl | rfl | rfl | rfl | rfl) <;> rfl) a3 b3
          refine i_ixL (by walk_at "sl") ev ?_
          walk_at "rd"
          rw [hlm]
          intro r4 a4 b4
          walk_at "rd"
          refine i_setL (e4 _ _ hD) (ixN_of a4 (by rw [hlm]; exact b4)) ?_
          walk_at "rd"
          refine ⟨D, _, _, ((e2.trans eD).trans e4).mut (ext_none e2 nD), rfl, upd_same, all_set hnm nv, by rw [List.length_set, hlm]; omega⟩
        · walk_at "rd"
          exact ⟨D, _, _, e2.trans eD, rfl, hD, hnm, by omega⟩
      · walk_at "rd"
        exact ⟨D, _, _, e2.trans eD, rfl, hD, hnm, by omega⟩
    · rintro σ H2 ⟨e2, o2, o3, o4, o5, o6, rfl⟩
      walk_at "rd"
      intro p1 Ha n1 ea h1; walk_at "rd"
      intro p2 Hb n2 eb h2; walk_at "rd"
      intro p3 Hc n3 ec h3; walk_at "rd"
      intro p4 Hd n4 ed h4; walk_at "rd"
      intro p5 He n5 ee h5; walk_at "rd"
      intro p6 Hf n6 ef h6; walk_at "rd"
      intro p7 Hg n7 eg h7; walk_at "rd"
      intro p8 Hh n8 eh h8; walk_at "rd"
      intro l Hi nl ei hl1; walk_at "rd"
      refine loop_L (fun i σ H' => Ext Hi H' ∧ ∃ o2 o3 o4 o5 o6, σ = [some (.ref a), some (.ref st), o2, o3, o4, o5, o6]) ⟨Ext.refl _, _, _, _, _, _, rfl⟩ (fun i σ H' _ h => ext_sl h.1 (SqL.of hl1)) ?_ ?_
      · rintro i x σ H' N hx ⟨e', o2, o3, o4, o5, o6, rfl⟩ hN
        obtain ⟨d, hd, sh, hnum⟩ : ∃ d, Dp K Hi x d ∧ Sh 10 d ∧ (∀ ds, d = .tuple ds → ds.all numE = true) := by
          have z := List.mem_of_getElem? hx
          simp only [List.mem_cons, List.not_mem_nil, or_false] at z
          rcases z with rfl | rfl | rfl | rfl | rfl | rfl | rfl | rfl | rfl | rfl | rfl
          case inr.inr.inr.inr.inr.inr.inr.inr.inl => exact ⟨_, .non, sh_non, nofun⟩
          case inr.inr.inr.inr.inr.inr.inr.inr.inr.inl => exact ⟨_, .int _, sh_int, nofun⟩
          case inr.inr.inr.inr.inr.inr.inr.inr.inr.inr => exact ⟨_, .str _, sh_str (by decide +kernel), nofun⟩
          all_goals exact ⟨_, by walk_at "dp", by walk_at "sh", fun ds e => by cases e; rfl⟩
        walk_at "rd"
        refine ⟨x, d, rfl, ext_dp e' hd, sh, hnum, fun H3 e3 => ?_⟩
        walk_at "rd"
        exact ⟨e'.trans e3, _, _, _, _, _, rfl⟩
      · rintro σ H' ⟨e', o2, o3, o4, o5, o6, rfl⟩
        walk_at "rd"
        exact k _
end
theorem all_mk {w : World} {K : PySem.W.Frag} {h : Heap} {mg : Str → Option Value} {fa : Addr} (X : K.In h) (G : h.Ns mainGlobals mg) (hfa : mg "law" = some (.ref fa))
    {f_is_integer f_is_row f_check_row f__law_start f__law_draw f__law_due f__law_told f__law_holds f_law : Addr}
    {od_is_integer an_is_integer od_is_row an_is_row od_check_row an_check_row od__law_start an__law_start od__law_draw an__law_draw od__law_due an__law_due od__law_told an__law_told od__law_holds an__law_holds od_law an_law : Option Addr}
    {sl_is_integer sl_is_row sl_check_row sl__law_start sl__law_draw sl__law_due sl__law_told sl__law_holds sl_law : Array (Option Value)}
    {oc_is_integer kV_is_integer dc_is_integer pm_is_integer cd_is_integer ct_is_integer oc_is_row kV_is_row dc_is_row pm_is_row cd_is_row ct_is_row oc_check_row kV_check_row dc_check_row pm_check_row cd_check_row ct_check_row oc__law_start kV__law_start dc__law_start pm__law_start cd__law_start ct__law_start oc__law_draw kV__law_draw dc__law_draw pm__law_draw cd__law_draw ct__law_draw oc__law_due kV__law_due dc__law_due pm__law_due cd__law_due ct__law_due oc__law_told kV__law_told dc__law_told pm__law_told cd__law_told ct__law_told oc__law_holds kV__law_holds dc__law_holds pm__law_holds cd__law_holds ct__law_holds oc_law kV_law dc_law pm_law cd_law ct_law : Value}
    {C_ParcelError C_BadRow : Addr}
    {i_BadRow NN_BadRow cc_BadRow cda_BadRow : Addr} {nm_BadRow qn_BadRow fl_BadRow : Str} {bs_BadRow bm_BadRow sub_BadRow : List Value} {sn_BadRow : List Str} {ab_BadRow : Bool} {col_BadRow : Option Bool} {dd_BadRow od_BadRow an_BadRow cdd_BadRow kd_BadRow : Option Addr} {m0_BadRow m1_BadRow m2_BadRow m3_BadRow m5_BadRow : Option Value} {oc_BadRow dc_BadRow pm_BadRow ct_BadRow ccl_BadRow kl_BadRow : Value} {sl_BadRow ccs_BadRow ks_BadRow : Array (Option Value)} {cv_BadRow : Array Value} {tf_BadRow : Tok}
    {tk_MOST_LENGTH tk_MOST_SUM : Tok}
    (a_is_integer : PySem.W.nsIn K mainGlobals "is_integer" = some (some (.ref f_is_integer)))
    (a_is_row : PySem.W.nsIn K mainGlobals "is_row" = some (some (.ref f_is_row)))
    (a_check_row : PySem.W.nsIn K mainGlobals "check_row" = some (some (.ref f_check_row)))
    (a__law_start : PySem.W.nsIn K mainGlobals "_law_start" = some (some (.ref f__law_start)))
    (a__law_draw : PySem.W.nsIn K mainGlobals "_law_draw" = some (some (.ref f__law_draw)))
    (a__law_due : PySem.W.nsIn K mainGlobals "_law_due" = some (some (.ref f__law_due)))
    (a__law_told : PySem.W.nsIn K mainGlobals "_law_told" = some (some (.ref f__law_told)))
    (a__law_holds : PySem.W.nsIn K mainGlobals "_law_holds" = some (some (.ref f__law_holds)))
    (a_law : PySem.W.nsIn K mainGlobals "law" = some (some (.ref f_law)))
    (a_ParcelError : PySem.W.nsIn K mainGlobals "ParcelError" = some (some (.ref C_ParcelError)))
    (a_BadRow : PySem.W.nsIn K mainGlobals "BadRow" = some (some (.ref C_BadRow)))
    (l_is_integer : K.lookup f_is_integer = some ⟨oc_is_integer, od_is_integer, .func (PySem.W.fnOf "is_integer" "is_integer" (defArgs s_is_integer) (defBody s_is_integer) (defScope s_is_integer) .none kV_is_integer dc_is_integer pm_is_integer an_is_integer cd_is_integer ct_is_integer), sl_is_integer⟩)
    (c_is_integer : PySem.W.codeIn K cd_is_integer "is_integer" = true)
    (k_is_integer : PySem.W.keepIn K (.ref f_is_integer) = true)
    (l_is_row : K.lookup f_is_row = some ⟨oc_is_row, od_is_row, .func (PySem.W.fnOf "is_row" "is_row" (defArgs s_is_row) (defBody s_is_row) (defScope s_is_row) .none kV_is_row dc_is_row pm_is_row an_is_row cd_is_row ct_is_row), sl_is_row⟩)
    (c_is_row : PySem.W.codeIn K cd_is_row "is_row" = true)
    (k_is_row : PySem.W.keepIn K (.ref f_is_row) = true)
    (l_check_row : K.lookup f_check_row = some ⟨oc_check_row, od_check_row, .func (PySem.W.fnOf "check_row" "check_row" (defArgs s_check_row) (defBody s_check_row) (defScope s_check_row) .none kV_check_row dc_check_row pm_check_row an_check_row cd_check_row ct_check_row), sl_check_row⟩)
    (c_check_row : PySem.W.codeIn K cd_check_row "check_row" = true)
    (k_check_row : PySem.W.keepIn K (.ref f_check_row) = true)
    (l__law_start : K.lookup f__law_start = some ⟨oc__law_start, od__law_start, .func (PySem.W.fnOf "_law_start" "_law_start" (defArgs s__law_start) (defBody s__law_start) (defScope s__law_start) .none kV__law_start dc__law_start pm__law_start an__law_start cd__law_start ct__law_start), sl__law_start⟩)
    (c__law_start : PySem.W.codeIn K cd__law_start "_law_start" = true)
    (k__law_start : PySem.W.keepIn K (.ref f__law_start) = true)
    (l__law_draw : K.lookup f__law_draw = some ⟨oc__law_draw, od__law_draw, .func (PySem.W.fnOf "_law_draw" "_law_draw" (defArgs s__law_draw) (defBody s__law_draw) (defScope s__law_draw) .none kV__law_draw dc__law_draw pm__law_draw an__law_draw cd__law_draw ct__law_draw), sl__law_draw⟩)
    (c__law_draw : PySem.W.codeIn K cd__law_draw "_law_draw" = true)
    (k__law_draw : PySem.W.keepIn K (.ref f__law_draw) = true)
    (l__law_due : K.lookup f__law_due = some ⟨oc__law_due, od__law_due, .func (PySem.W.fnOf "_law_due" "_law_due" (defArgs s__law_due) (defBody s__law_due) (defScope s__law_due) .none kV__law_due dc__law_due pm__law_due an__law_due cd__law_due ct__law_due), sl__law_due⟩)
    (c__law_due : PySem.W.codeIn K cd__law_due "_law_due" = true)
    (k__law_due : PySem.W.keepIn K (.ref f__law_due) = true)
    (l__law_told : K.lookup f__law_told = some ⟨oc__law_told, od__law_told, .func (PySem.W.fnOf "_law_told" "_law_told" (defArgs s__law_told) (defBody s__law_told) (defScope s__law_told) .none kV__law_told dc__law_told pm__law_told an__law_told cd__law_told ct__law_told), sl__law_told⟩)
    (c__law_told : PySem.W.codeIn K cd__law_told "_law_told" = true)
    (k__law_told : PySem.W.keepIn K (.ref f__law_told) = true)
    (l__law_holds : K.lookup f__law_holds = some ⟨oc__law_holds, od__law_holds, .func (PySem.W.fnOf "_law_holds" "_law_holds" (defArgs s__law_holds) (defBody s__law_holds) (defScope s__law_holds) .none kV__law_holds dc__law_holds pm__law_holds an__law_holds cd__law_holds ct__law_holds), sl__law_holds⟩)
    (c__law_holds : PySem.W.codeIn K cd__law_holds "_law_holds" = true)
    (k__law_holds : PySem.W.keepIn K (.ref f__law_holds) = true)
    (l_law : K.lookup f_law = some ⟨oc_law, od_law, .func (PySem.W.fnOf "law" "law" (defArgs s_law) (defBody s_law) (defScope s_law) .none kV_law dc_law pm_law an_law cd_law ct_law), sl_law⟩)
    (c_law : PySem.W.codeIn K cd_law "law" = true)
    (k_law : PySem.W.keepIn K (.ref f_law) = true)
    (xL_BadRow : K.lookup C_BadRow = some (excClassObj nm_BadRow qn_BadRow C_BadRow NN_BadRow bs_BadRow bm_BadRow true sn_BadRow sub_BadRow ab_BadRow col_BadRow dd_BadRow m0_BadRow m1_BadRow m2_BadRow m3_BadRow m5_BadRow "ValueError.__new__"))
    (rv_BadRow : PySem.HandSPX.refsVE bm_BadRow = true)
    (su_BadRow : PySem.W.ks_superIn K C_BadRow C_BadRow "__init__" = some (some (.builtin "ValueError.__init__")))
    (sa_BadRow : PySem.W.findIn K (.ref C_BadRow) "__setattr__" = some (some (.builtin "object.__setattr__")))
    (iC_BadRow : PySem.W.findIn K (.ref C_BadRow) "__init__" = some (some (.ref i_BadRow)))
    (tI_BadRow : PySem.W.typeIn K (.ref i_BadRow) = some (.type "function"))
    (xb_BadRow : PySem.W.subIn K (.ref C_BadRow) (.type "BaseException") = some true)
    (xv_BadRow : PySem.W.subIn K (.ref C_BadRow) (.type "ValueError") = some true)
    (mr_BadRow : PySem.W.mroIn K C_BadRow (.ref C_BadRow) = some true)
    (xt_BadRow : PySem.W.typeIn K (.ref C_BadRow) = some (.type "type"))
    (kc_BadRow : PySem.W.keepIn K (.ref C_BadRow) = true)
    (li_BadRow : K.lookup i_BadRow = some ⟨oc_BadRow, od_BadRow, .func (PySem.W.fnX "__init__" "BadRow.__init__" (defArgs s_BadRow___init__) (defBody s_BadRow___init__) (defScope s_BadRow___init__) [("__class__", cc_BadRow)] .none .none dc_BadRow pm_BadRow an_BadRow (.ref cda_BadRow) ct_BadRow), sl_BadRow⟩)
    (ci_BadRow : PySem.W.codeIn K (.ref cda_BadRow) "BadRow.__init__" = true)
    (lc_BadRow : K.lookup cda_BadRow = some ⟨ccl_BadRow, cdd_BadRow, .fields cv_BadRow, ccs_BadRow⟩)
    (lf_BadRow : cv_BadRow[2]? = some (.str fl_BadRow tf_BadRow))
    (lg_BadRow : ((PySem.Challenge.pw_widestparcels_k11_rows.main.file : Str) == fl_BadRow) = true)
    (lk_BadRow : K.lookup cc_BadRow = some ⟨kl_BadRow, kd_BadRow, .cell (some (.ref C_BadRow)), ks_BadRow⟩)
    (n_BadRow_value : PySem.W.findIn K (.ref C_BadRow) "value" = some none)
    (op_ : PySem.W.nsIn K cStatics "thirdparty.any" = some none)
    (su_ : PySem.W.nsIn K mainGlobals "super" = some none)
    (xf0_BadRow : PySem.W.findIn K (.ref C_BadRow) "__getattribute__" = some (some (.builtin "BaseException.__getattribute__")))
    (xf1_BadRow : PySem.W.findIn K (.ref C_BadRow) "__getattr__" = some none)
    (xf2_BadRow : PySem.W.subIn K (.ref C_BadRow) (.type "BaseException") = some true)
    (xf3_BadRow : PySem.W.hasDictIn K C_BadRow = true)
    (xf4_BadRow : PySem.W.findIn K (.ref C_BadRow) "__class__" = some (some (.builtin "object.__class__")))
    (xf7_BadRow : PySem.W.mroIn K C_BadRow (.type "object") = some true)
    (xf5_ : PySem.W.specialIn K (.builtin "object.__class__") "__get__" = some (some (.builtin "getset_descriptor.__get__")))
    (xf6_ : PySem.W.takesIn K (.builtin "object.__class__") = some true)
    (te_BadRow_BadRow : PySem.W.exmOne K (.ref C_BadRow) (.ref C_BadRow) = some true)
    (z_isinstance : PySem.W.nsIn K mainGlobals "isinstance" = some none)
    (z_int : PySem.W.nsIn K mainGlobals "int" = some none)
    (z_bool : PySem.W.nsIn K mainGlobals "bool" = some none)
    (z_len : PySem.W.nsIn K mainGlobals "len" = some none)
    (z_abs : PySem.W.nsIn K mainGlobals "abs" = some none)
    (z_range : PySem.W.nsIn K mainGlobals "range" = some none)
    (z_tuple : PySem.W.nsIn K mainGlobals "tuple" = some none)
    (z_list : PySem.W.nsIn K mainGlobals "list" = some none)
    (z_sum : PySem.W.nsIn K mainGlobals "sum" = some none)
    (a_MOST_LENGTH : PySem.W.nsIn K mainGlobals "MOST_LENGTH" = some (some (.int 4 tk_MOST_LENGTH)))
    (a_MOST_SUM : PySem.W.nsIn K mainGlobals "MOST_SUM" = some (some (.int 24 tk_MOST_SUM))) :
    ∃ fd : FuncData, (∀ (s : Shared) (v : Value), BindsTo s fd ⟨[v], []⟩ [("_law_script", v)]) ∧ ∀ base : Heap, K.In base → base.Ns mainGlobals mg → FnOk PySem.Challenge.pw_widestparcels_k11_rows w K mg base (L2.CX PySem.Challenge.pw_widestparcels_k11_rows w) 6 fa fd ["_law_script"] (spLaw K) := by
  have e := hfa.symm.trans (PySem.W.mg_of X G a_law)
  have e2 : f_law = fa := by cases e; rfl
  clear e
  subst e2
  have e_BadRow : WpE.ErrC PySem.Challenge.pw_widestparcels_k11_rows K C_BadRow i_BadRow "BadRow.__init__" (defArgs s_BadRow___init__) (defBody s_BadRow___init__) (defScope s_BadRow___init__) := WpE.errC_of xL_BadRow rv_BadRow su_BadRow sa_BadRow iC_BadRow tI_BadRow xb_BadRow xv_BadRow mr_BadRow xt_BadRow kc_BadRow op_ su_ rfl li_BadRow ci_BadRow lc_BadRow lf_BadRow lg_BadRow lk_BadRow
  have T : Txt PySem.Challenge.pw_widestparcels_k11_rows w K mg ⟨f_is_integer, PySem.W.fnOf "is_integer" "is_integer" (defArgs s_is_integer) (defBody s_is_integer) (defScope s_is_integer) .none kV_is_integer dc_is_integer pm_is_integer an_is_integer cd_is_integer ct_is_integer, f_is_row, PySem.W.fnOf "is_row" "is_row" (defArgs s_is_row) (defBody s_is_row) (defScope s_is_row) .none kV_is_row dc_is_row pm_is_row an_is_row cd_is_row ct_is_row, f_check_row, PySem.W.fnOf "check_row" "check_row" (defArgs s_check_row) (defBody s_check_row) (defScope s_check_row) .none kV_check_row dc_check_row pm_check_row an_check_row cd_check_row ct_check_row, f__law_start, PySem.W.fnOf "_law_start" "_law_start" (defArgs s__law_start) (defBody s__law_start) (defScope s__law_start) .none kV__law_start dc__law_start pm__law_start an__law_start cd__law_start ct__law_start, f__law_draw, PySem.W.fnOf "_law_draw" "_law_draw" (defArgs s__law_draw) (defBody s__law_draw) (defScope s__law_draw) .none kV__law_draw dc__law_draw pm__law_draw an__law_draw cd__law_draw ct__law_draw, f__law_due, PySem.W.fnOf "_law_due" "_law_due" (defArgs s__law_due) (defBody s__law_due) (defScope s__law_due) .none kV__law_due dc__law_due pm__law_due an__law_due cd__law_due ct__law_due, f__law_told, PySem.W.fnOf "_law_told" "_law_told" (defArgs s__law_told) (defBody s__law_told) (defScope s__law_told) .none kV__law_told dc__law_told pm__law_told an__law_told cd__law_told ct__law_told, f__law_holds, PySem.W.fnOf "_law_holds" "_law_holds" (defArgs s__law_holds) (defBody s__law_holds) (defScope s__law_holds) .none kV__law_holds dc__law_holds pm__law_holds an__law_holds cd__law_holds ct__law_holds, f_law, PySem.W.fnOf "law" "law" (defArgs s_law) (defBody s_law) (defScope s_law) .none kV_law dc_law pm_law an_law cd_law ct_law, C_ParcelError, C_BadRow, i_BadRow⟩ := {
    F_is_integer := fun_mk (st := s_is_integer) l_is_integer c_is_integer k_is_integer
    g_is_integer := PySem.W.mg_of X G a_is_integer
    F_is_row := fun_mk (st := s_is_row) l_is_row c_is_row k_is_row
    g_is_row := PySem.W.mg_of X G a_is_row
    F_check_row := fun_mk (st := s_check_row) l_check_row c_check_row k_check_row
    g_check_row := PySem.W.mg_of X G a_check_row
    F__law_start := fun_mk (st := s__law_start) l__law_start c__law_start k__law_start
    g__law_start := PySem.W.mg_of X G a__law_start
    F__law_draw := fun_mk (st := s__law_draw) l__law_draw c__law_draw k__law_draw
    g__law_draw := PySem.W.mg_of X G a__law_draw
    F__law_due := fun_mk (st := s__law_due) l__law_due c__law_due k__law_due
    g__law_due := PySem.W.mg_of X G a__law_due
    F__law_told := fun_mk (st := s__law_told) l__law_told c__law_told k__law_told
    g__law_told := PySem.W.mg_of X G a__law_told
    F__law_holds := fun_mk (st := s__law_holds) l__law_holds c__law_holds k__law_holds
    g__law_holds := PySem.W.mg_of X G a__law_holds
    F_law := fun_mk (st := s_law) l_law c_law k_law
    g_law := PySem.W.mg_of X G a_law
    g_ParcelError := PySem.W.mg_of X G a_ParcelError
    g_BadRow := PySem.W.mg_of X G a_BadRow
    E_BadRow := e_BadRow
    N_BadRow := WpE.init_BadRow e_BadRow rfl n_BadRow_value
    xf_BadRow := ⟨xf0_BadRow, xf1_BadRow, xf2_BadRow, xf3_BadRow⟩
    ex_BadRow := ⟨xf0_BadRow, xf1_BadRow, xf2_BadRow, xf3_BadRow, xf4_BadRow, xf5_, xf6_, xf7_BadRow⟩
    nf_BadRow_value := n_BadRow_value
    te_BadRow_BadRow := te_BadRow_BadRow
    b_isinstance := PySem.W.mg_none_of X G z_isinstance
    b_int := PySem.W.mg_none_of X G z_int
    b_bool := PySem.W.mg_none_of X G z_bool
    b_len := PySem.W.mg_none_of X G z_len
    b_abs := PySem.W.mg_none_of X G z_abs
    b_range := PySem.W.mg_none_of X G z_range
    b_tuple := PySem.W.mg_none_of X G z_tuple
    b_list := PySem.W.mg_none_of X G z_list
    b_sum := PySem.W.mg_none_of X G z_sum
    c_MOST_LENGTH := ⟨_, PySem.W.mg_of X G a_MOST_LENGTH, ⟨_, rfl⟩⟩
    c_MOST_SUM := ⟨_, PySem.W.mg_of X G a_MOST_SUM, ⟨_, rfl⟩⟩ }
  exact ⟨_, fun s v => .of_eq rfl, fun base _ _ => ok_law T⟩
theorem walk {K : Params → PySem.W.Frag} {q : Program} {loose : List Str} {XP : (Str → Option Value) → Heap → Prop} {YP : World → Heap → Prop} {d : DefRec} (hdf : d.params.defaults = []) (hY : ∀ (w : World) (h : Heap), YP w h → (K w.params).In h)
    (F : ∀ (w : World) (mg : Str → Option Value) (fa : Addr) (h : Heap), (K w.params).In h → h.Ns mainGlobals mg → mg d.name = some (.ref fa) → ∃ fd : FuncData, (∀ (s : Shared) (u : Value), BindsTo s fd ⟨[u], []⟩ [("_law_script", u)]) ∧
      ∀ base : Heap, (K w.params).In base → base.Ns mainGlobals mg → FnOk PySem.Challenge.pw_widestparcels_k11_rows w (K w.params) mg base (L2.CX PySem.Challenge.pw_widestparcels_k11_rows w) 6 fa fd ["_law_script"] (spLaw (K w.params))) :
    PySem.W.WalkO q loose XP YP PySem.Challenge.rw_widestparcels_k11_rows.row.toRowW d [] (fun f vs => PySem.call f vs) :=
  L2.walk_of (l := PySem.Challenge.rw_widestparcels_k11_rows) (n := 63) (k := 6) (x := "_law_script") (CX := fun w => L2.CX PySem.Challenge.pw_widestparcels_k11_rows w) (sp := fun w => spLaw (K w.params)) rfl (by decide) hdf ⟨rfl, by decide, by decide⟩ hY F (fun _ _ a ns hl _ hS => ⟨a, ns, rfl, hS, hl, fun _ => rfl⟩) (fun _ _ _ _ _ z => Wp.cx_false z)
end Law
open PySem PySem.W PyProof.Rows
set_option maxRecDepth 100000 in
set_option maxHeartbeats 0 in
theorem PySem.Challenge.cw_widestparcels_k11_rows_holds : PySem.Challenge.rw_widestparcels_k11_rows.Holds := by
  w_on; o_law; k_head; (case hw => w_witness2)
  k_fill
  refine Law.walk rfl (fun w h Y => PySem.W.kIn_of Y) ?F
  case F =>
    intro w mg fa h KX G hmg
    refine' Law.all_mk KX G hmg ?a_is_integer ?a_is_row ?a_check_row ?a__law_start ?a__law_draw ?a__law_due ?a__law_told ?a__law_holds ?a_law ?a_ParcelError ?a_BadRow ?l_is_integer ?c_is_integer ?k_is_integer ?l_is_row ?c_is_row ?k_is_row ?l_check_row ?c_check_row ?k_check_row ?l__law_start ?c__law_start ?k__law_start ?l__law_draw ?c__law_draw ?k__law_draw ?l__law_due ?c__law_due ?k__law_due ?l__law_told ?c__law_told ?k__law_told ?l__law_holds ?c__law_holds ?k__law_holds ?l_law ?c_law ?k_law ?xL_BadRow ?rv_BadRow ?su_BadRow ?sa_BadRow ?iC_BadRow ?tI_BadRow ?xb_BadRow ?xv_BadRow ?mr_BadRow ?xt_BadRow ?kc_BadRow ?li_BadRow ?ci_BadRow ?lc_BadRow ?lf_BadRow ?lg_BadRow ?lk_BadRow ?n_BadRow_value ?op_ ?su_ ?xf0_BadRow ?xf1_BadRow ?xf2_BadRow ?xf3_BadRow ?xf4_BadRow ?xf7_BadRow ?xf5_ ?xf6_ ?te_BadRow_BadRow ?z_isinstance ?z_int ?z_bool ?z_len ?z_abs ?z_range ?z_tuple ?z_list ?z_sum ?a_MOST_LENGTH ?a_MOST_SUM
    (case a_is_integer => first | k_is | rfl | decide +kernel)
    (case a_is_row => first | k_is | rfl | decide +kernel)
    (case a_check_row => first | k_is | rfl | decide +kernel)
    (case a__law_start => first | k_is | rfl | decide +kernel)
    (case a__law_draw => first | k_is | rfl | decide +kernel)
    (case a__law_due => first | k_is | rfl | decide +kernel)
    (case a__law_told => first | k_is | rfl | decide +kernel)
    (case a__law_holds => first | k_is | rfl | decide +kernel)
    (case a_law => first | k_is | rfl | decide +kernel)
    (case a_ParcelError => first | k_is | rfl | decide +kernel)
    (case a_BadRow => first | k_is | rfl | decide +kernel)
    (case l_is_integer => first | k_is | rfl | decide +kernel)
    (case c_is_integer => first | k_is | rfl | decide +kernel)
    (case k_is_integer => first | k_is | rfl | decide +kernel)
    (case l_is_row => first | k_is | rfl | decide +kernel)
    (case c_is_row => first | k_is | rfl | decide +kernel)
    (case k_is_row => first | k_is | rfl | decide +kernel)
    (case l_check_row => first | k_is | rfl | decide +kernel)
    (case c_check_row => first | k_is | rfl | decide +kernel)
    (case k_check_row => first | k_is | rfl | decide +kernel)
    (case l__law_start => first | k_is | rfl | decide +kernel)
    (case c__law_start => first | k_is | rfl | decide +kernel)
    (case k__law_start => first | k_is | rfl | decide +kernel)
    (case l__law_draw => first | k_is | rfl | decide +kernel)
    (case c__law_draw => first | k_is | rfl | decide +kernel)
    (case k__law_draw => first | k_is | rfl | decide +kernel)
    (case l__law_due => first | k_is | rfl | decide +kernel)
    (case c__law_due => first | k_is | rfl | decide +kernel)
    (case k__law_due => first | k_is | rfl | decide +kernel)
    (case l__law_told => first | k_is | rfl | decide +kernel)
    (case c__law_told => first | k_is | rfl | decide +kernel)
    (case k__law_told => first | k_is | rfl | decide +kernel)
    (case l__law_holds => first | k_is | rfl | decide +kernel)
    (case c__law_holds => first | k_is | rfl | decide +kernel)
    (case k__law_holds => first | k_is | rfl | decide +kernel)
    (case l_law => first | k_is | rfl | decide +kernel)
    (case c_law => first | k_is | rfl | decide +kernel)
    (case k_law => first | k_is | rfl | decide +kernel)
    (case xL_BadRow => first | k_is | rfl | decide +kernel)
    (case rv_BadRow => decide +kernel)
    (case su_BadRow => ks_is)
    (case sa_BadRow => first | k_is | rfl | decide +kernel)
    (case iC_BadRow => first | k_is | rfl | decide +kernel)
    (case tI_BadRow => first | k_is | rfl | decide +kernel)
    (case xb_BadRow => first | k_is | rfl | decide +kernel)
    (case xv_BadRow => first | k_is | rfl | decide +kernel)
    (case mr_BadRow => first | k_is | rfl | decide +kernel)
    (case xt_BadRow => first | k_is | rfl | decide +kernel)
    (case kc_BadRow => first | k_is | rfl | decide +kernel)
    (case li_BadRow => first | k_is | rfl | decide +kernel)
    (case ci_BadRow => first | k_is | rfl | decide +kernel)
    (case lc_BadRow => first | k_is | rfl | decide +kernel)
    (case lf_BadRow => first | rfl | decide +kernel)
    (case lg_BadRow => decide +kernel)
    (case lk_BadRow => first | k_is | rfl | decide +kernel)
    (case n_BadRow_value => first | k_is | rfl | decide +kernel)
    (case op_ => first | k_is | rfl | decide +kernel)
    (case su_ => first | k_is | rfl | decide +kernel)
    (case xf0_BadRow => first | k_is | rfl | decide +kernel)
    (case xf1_BadRow => first | k_is | rfl | decide +kernel)
    (case xf2_BadRow => first | k_is | rfl | decide +kernel)
    (case xf3_BadRow => first | k_is | rfl | decide +kernel)
    (case xf4_BadRow => first | k_is | rfl | decide +kernel)
    (case xf7_BadRow => first | k_is | rfl | decide +kernel)
    (case xf5_ => first | k_is | rfl | decide +kernel)
    (case xf6_ => first | k_is | rfl | decide +kernel)
    (case te_BadRow_BadRow => first | k_is | rfl | decide +kernel)
    (case z_isinstance => first | k_is | rfl | decide +kernel)
    (case z_int => first | k_is | rfl | decide +kernel)
    (case z_bool => first | k_is | rfl | decide +kernel)
    (case z_len => first | k_is | rfl | decide +kernel)
    (case z_abs => first | k_is | rfl | decide +kernel)
    (case z_range => first | k_is | rfl | decide +kernel)
    (case z_tuple => first | k_is | rfl | decide +kernel)
    (case z_list => first | k_is | rfl | decide +kernel)
    (case z_sum => first | k_is | rfl | decide +kernel)
    (case a_MOST_LENGTH => first | k_is | rfl | decide +kernel)
    (case a_MOST_SUM => first | k_is | rfl | decide +kernel)
