import PyProof.Rows.All
import Wide.All
import OpenK.AllK
import Wide.FinOn
import PyProof.EqAt
import PyProof.EqKinds
import PyProof.TupleCall
import KE.KExcSuper
import KE.KSuper
import HandS.ForMost
import HandS.ForExc
import HandS.ExcField
import HandS.TryMany
import KE.GoesEnum
import KE.GoesMore
import KE.DataMinMax
import HandS.DictComp
import HandS.SortKw
import HandS.TupMul
import HandS.Text
import HandS.Wide
import PyProof.StrOps2
import HandS.Conv
import HandS.Style
import HandS.IsInst
import HandS.Lambda
import HandS.EndTab
import PySem.Challenge.RW_meetandmake_k85_whole_texts_with_faults
import KE.IntTextLaws
import HandS.Dict
import HandS.Evl
import HandS.WordsDict
import PyProof.Rows.StrDigitsNeg
import KE.KNestM
import HandS.ExcIs
set_option Elab.async false
set_option linter.all false
set_option maxRecDepth 100000
set_option maxHeartbeats 2000000
/-! An own error class whose __init__ says super().__init__(v) and self.fl = v; its base's base is ValueError. -/
namespace PySem
namespace ErrX
open PySem.W PySem.Calls PyProof.Rows PySem.HandSPX
/-- places in the text of __init__ -/
structure Pz where
  (a1 a2 q1 q2 q3 q4 q5 q6 q7 q8 q9 q10 : Pos)
def iA (fl : Str) (z : Pz) : Arguments := { posonlyargs := [], args := [{ arg := "self", annotation := none, pos := z.a1 }, { arg := fl, annotation := none, pos := z.a2 }], vararg := none, kwonlyargs := [], kw_defaults := [], kwarg := none, defaults := [] }
def iB (fl : Str) (z : Pz) : List Stmt := [.Expr (.Call (.Attribute (.Call (.Name "super" z.q1) [] [] z.q2) "__init__" z.q3) [.Name fl z.q4] [] z.q5) z.q6, .Assign [.Attribute (.Name "self" z.q7) fl z.q8] (.Name fl z.q9) z.q10]
def iS (fl : Str) : Scope := { kind := .function, names := [(PySem.Str.ofString "self", .local), (fl, .local), (PySem.Str.ofString "__class__", .free), (PySem.Str.ofString "super", .globalImplicit)], isGenerator := false, isCoroutine := false, more := [] }
/-- a field's name that gets in nobody's way -/
structure FlOk (fl : Str) : Prop where
  n1 : (fl == ("self" : Str)) = false
  n2 : (fl == ("__class__" : Str)) = false
  n3 : (fl == ("super" : Str)) = false
  n4 : (fl == ("__debug__" : Str)) = false
  n5 : (fl == ("__classdict__" : Str)) = false
  bnd : ∀ (qi : Str) (z : Pz) (doc pm : Value) (an : Option Addr) (cdv ct : Value) (cc : Addr) (a b : Value), bindArgs (ksFn "__init__" qi (iA fl z) (iB fl z) (iS fl) .none .none doc pm an cdv ct cc) ⟨[a, b], []⟩ = pure [(("self" : Str), a), (fl, b)]
structure ErrTxt (P : Program) (K : Frag) (mg : Str → Option Value) (nm qi fl : Str) (C fI : Addr) : Prop where
  fo : FlOk fl
  gC : mg nm = some (.ref C)
  cls : ∃ nm' q N bs bm sn sub ab col dd k0 k1 k2 k3 k5, K.lookup C = some (excClassObj nm' q C N bs bm true sn sub ab col dd k0 k1 k2 k3 k5 "ValueError.__new__") ∧ refsVE bm = true
  sa : findIn K (.ref C) "__setattr__" = some (some (.builtin "object.__setattr__"))
  noN : findIn K (.ref C) fl = some none
  iC : findIn K (.ref C) "__init__" = some (some (.ref fI))
  tC : typeIn K (.ref fI) = some (.type "function")
  kC : keepIn K (.ref C) = true
  exC : subIn K (.ref C) (.type "BaseException") = some true
  vaC : subIn K (.ref C) (.type "ValueError") = some true
  slf : mroIn K C (.ref C) = some true
  tyC : typeIn K (.ref C) = some (.type "type")
  te : exmOne K (.ref C) (.ref C) = some true
  xf : L2.XfC K C
  ou : nsIn K cStatics "thirdparty.any" = some none
  up : ks_superIn K C C "__init__" = some (some (.builtin "ValueError.__init__"))
  sg : mg "super" = none
  top : (P.main.scope.names.lookup ("super" : Str)).isSome = false
  fn : ∃ (oc : Value) (od : Option Addr) (doc pm : Value) (an : Option Addr) (ct : Value) (osl : Array (Option Value)) (cc cda : Addr) (z : Pz),
    K.lookup fI = some ⟨oc, od, .func (ksFn "__init__" qi (iA fl z) (iB fl z) (iS fl) .none .none doc pm an (.ref cda) ct cc), osl⟩ ∧ codeIn K (.ref cda) qi = true ∧ (z.q3.endLine == z.q5.line) = true ∧
    (∃ ccl cdd vs ccs file tf, K.lookup cda = some ⟨ccl, cdd, .fields vs, ccs⟩ ∧ vs[2]? = some (.str file tf) ∧ ((P.main.file : Str) == file) = true) ∧
    (∃ cl cld csl, K.lookup cc = some ⟨cl, cld, .cell (some (.ref C)), csl⟩)
/-- what __init__ leaves of a fresh exception at x -/
structure InitEnd (h h' : Heap) (x C dx t1 : Addr) (fl : Str) (v : Value) : Prop where
  keep : ∀ b o, b ≠ x → h.get? b = some o → h'.get? b = some o
  obj : h'.get? x = some { cls := .ref C, dict := some dx, data := .fields #[.ref t1, .none, .none, .none, .bool false, .none] }
  dbig : h.objs.size ≤ dx
  dne : dx ≠ x
  ns : h'.Ns1 dx (fun y => if y = fl then some v else none)
theorem super_call (fl : Str) (z q3 q5 q1 q2 : Pos) (env : Env) (hz : (q3.endLine == q5.line) = true) : eval (.Call (.Attribute (.Call (.Name "super" q1) [] [] q2) "__init__" q3) [.Name fl z] [] q5) env = (do
      let ov ← attributeBase (.Call (.Name "super" q1) [] [] q2) "__init__" env (eval (.Call (.Name "super" q1) [] [] q2) env)
      standAt q3.atName
      let (f, first) ← holding [ov] (getMethod ov "__init__" (do return (← importBound (.Call (.Name "super" q1) [] [] q2) env).getD true))
      callWith q5 f first (backTo q5 (starEach [.Name fl z] env)) []) := by
  rw [arm_eval_Call]
  have e : ∀ n args kws, methodCallPos (methodCallForm n args kws) (.Call (.Name "super" q1) [] [] q2) env q3 q5 = pure q5 := fun n args kws => by
    unfold methodCallPos
    rw [hz, Bool.or_true]
    rfl
  unfold methodCall
  simp only [e, pure_bind]
  rfl
section
variable {prog : Program} {w : World} {A : Around} {E : Value → Shared → Prop} {R : Result → Shared → Prop} {s : Shared} {K : Frag} {mg : Str → Option Value} {C fI : Addr} {nm qi fl : Str}
theorem fl_local (fo : FlOk fl) : (iS fl).names.lookup fl = some .local := by
  have h1 : (fl == PySem.Str.ofString "self") = false := fo.n1
  show List.lookup fl [(PySem.Str.ofString "self", NameKind.local), (fl, .local), (PySem.Str.ofString "__class__", .free), (PySem.Str.ofString "super", .globalImplicit)] = some .local
  rw [List.lookup_cons, h1]
  simp
theorem self_local : (iS fl).names.lookup ("self" : Str) = some .local := by
  show List.lookup ("self" : Str) [(PySem.Str.ofString "self", NameKind.local), (fl, .local), (PySem.Str.ofString "__class__", .free), (PySem.Str.ofString "super", .globalImplicit)] = some .local
  rw [List.lookup_cons]
  rfl
theorem beq_swap {a b : Str} (h : (a == b) = false) : (b == a) = false := by
  rw [beq_eq_false_iff_ne] at h ⊢
  exact fun e => h e.symm
theorem class_free (fo : FlOk fl) : (iS fl).names.lookup ("__class__" : Str) = some .free := by
  have h2 : (PySem.Str.ofString "__class__" == fl) = false := beq_swap fo.n2
  show List.lookup (PySem.Str.ofString "__class__") [(PySem.Str.ofString "self", NameKind.local), (fl, .local), (PySem.Str.ofString "__class__", .free), (PySem.Str.ofString "super", .globalImplicit)] = some .free
  rw [List.lookup_cons, show (PySem.Str.ofString "__class__" == PySem.Str.ofString "self") = false from by decide +kernel]
  show List.lookup (PySem.Str.ofString "__class__") [(fl, NameKind.local), (PySem.Str.ofString "__class__", .free), (PySem.Str.ofString "super", .globalImplicit)] = some .free
  rw [List.lookup_cons, h2]
  rfl
theorem super_glob (fo : FlOk fl) : (iS fl).names.lookup ("super" : Str) = some .globalImplicit := by
  have h2 : (PySem.Str.ofString "super" == fl) = false := beq_swap fo.n3
  show List.lookup (PySem.Str.ofString "super") [(PySem.Str.ofString "self", NameKind.local), (fl, .local), (PySem.Str.ofString "__class__", .free), (PySem.Str.ofString "super", .globalImplicit)] = some .globalImplicit
  rw [List.lookup_cons, show (PySem.Str.ofString "super" == PySem.Str.ofString "self") = false from by decide +kernel]
  show List.lookup (PySem.Str.ofString "super") [(fl, NameKind.local), (PySem.Str.ofString "__class__", .free), (PySem.Str.ofString "super", .globalImplicit)] = some .globalImplicit
  rw [List.lookup_cons, h2]
  show List.lookup (PySem.Str.ofString "super") [(PySem.Str.ofString "__class__", NameKind.free), (PySem.Str.ofString "super", .globalImplicit)] = some .globalImplicit
  rw [List.lookup_cons, show (PySem.Str.ofString "super" == PySem.Str.ofString "__class__") = false from by decide +kernel]
  rfl
/-- the built-in __init__, bound to the exception, called -/
theorem mw_call {bs bm : List Value} {nm' q : Str} {N : Addr} {hdct : Bool} {sn : List Str} {sub : List Value} {ab : Bool} {col : Option Bool} {dd : Option Addr} {k0 k1 k2 k3 k5 : Option Value} {u x t0 : Addr} {rest : List Value} {Q : Value → Shared → Prop}
    (hC : s.heap.get? C = some (excClassObj nm' q C N bs bm hdct sn sub ab col dd k0 k1 k2 k3 k5 "ValueError.__new__")) (hu : s.heap.get? u = some (kxs_mw "ValueError.__init__" x)) (hx : s.heap.get? x = some (excO C t0)) (hz : rest.length ≤ sizeLine)
    (h : ∀ h' t1, (∀ b o, b ≠ x → s.heap.get? b = some o → h'.get? b = some o) → h'.get? x = some (excO C t1) → Q .none { s with heap := h' }) :
    wpAny (model prog w) A (call (.ref u) rest) Q E s := by
  obtain ⟨hh, g, d, tk, os⟩ := s
  refine wpAny_call (codeAny_of_tree ?_)
  show wpAny _ A.in1 (callAny (.ref u) ⟨rest, []⟩) _ _ _
  simp only [callAny]
  refine wpAny_bind (wpAny_load hu ?_)
  have tt : (Value.type "method-wrapper" == Value.type "method" || Value.type "method-wrapper" == Value.type "builtin_function_or_method" || Value.type "method-wrapper" == Value.type "method-wrapper") = true := by decide
  simp only [kxs_mw, tt, if_true]
  refine KFB.if_so (by decide) ?_
  refine wpAny_bind (check_bound_init F.excBase_ValueError.toExcCallFacts hC hx rfl ?_)
  refine wpAny_bind (wpAny_pure (wpAny_pure ?_))
  refine ⟨plainId_quiet F.excBase_ValueError.init.plain _, codeAny_builtin F.excBase_ValueError.initEntry ?_⟩
  exact exc_init_tree (cls := .ref C) (t0 := t0) (dv := none) (c2 := .none) (c3 := .none) (b4 := .bool false) hx hz fun h' k1 e1 _ => h h' _ k1 e1

theorem err_init (T : ErrTxt prog K mg nm qi fl C fI) {x t0 : Addr} {v : Value} (X : K.In s.heap) (G : s.heap.Ns mainGlobals mg) (B : ∃ mb, s.heap.Ns builtinsNs mb ∧ ∀ y : Str, y ≠ "__name__" → mb y = bootBuiltins y)
    (hlim : s.heap.NoLimit) (hx : s.heap.get? x = some (excO C t0)) (hnx : K.lookup x = none) (hroom : A.depth < recursionLimit)
    (hq : ∀ h' tk dx t1, InitEnd s.heap h' x C dx t1 fl v → R (.ok (.ret .none)) { s with heap := h', toks := tk }) :
    codeAny (model prog w) A (.call (.ref fI) ⟨[.ref x, v], []⟩) R s := by
  obtain ⟨oc, od, doc, pm, an, ct, osl, cc, cda, z, ho, hcd, hz, ⟨ccl, cdd, vs, ccs, file, tf, hcode, hvs, hfile⟩, ⟨cl, cld, csl, hcell⟩⟩ := T.fn
  obtain ⟨nm', q, N, bs, bm, sn, sub, ab, col, dd, k0, k1, k2, k3, k5, hC, hbm⟩ := T.cls
  have hcl : clsIn K C = some { name := nm', bases := bs, mro := .ref C :: bm, ns := N, qualname := q, hasDict := true, slotNames := sn, subclasses := sub, abstract := ab, collection := col, hasDel := false } := by unfold clsIn; rw [hC] <;> rfl
  have fo := T.fo
  have kl := fl_local fo
  have ks : (iS fl).names.lookup ("self" : Str) = some .local := self_local
  have kc := class_free fo
  have kg := super_glob fo
  have hn1 : (fl == ("self" : Str)) = false := fo.n1
  refine ks_codeAny_call_defAt (fd := ksFn "__init__" qi (iA fl z) (iB fl z) (iS fl) .none .none doc pm an (.ref cda) ct cc) (body := iB fl z) (binds := [("self", .ref x), (fl, v)]) hroom (X _ _ ho) rfl hlim (codeRec_of X hcd) rfl
    (BindsTo.of_eq ?b) ?c ?l (fun h1 hns hk1 => ?_) rfl rfl rfl
  case b => exact fo.bnd _ _ _ _ _ _ _ _ _ _
  case c =>
    intro y hy
    have hy' : y ∈ [(PySem.Str.ofString "self", NameKind.local), (fl, .local), (PySem.Str.ofString "__class__", .free), (PySem.Str.ofString "super", .globalImplicit)] := hy
    simp only [List.mem_cons, List.not_mem_nil, or_false] at hy'
    rcases hy' with rfl | rfl | rfl | rfl <;> (intro e; cases e)
  case l =>
    intro y hy
    simp only [List.mem_cons, List.not_mem_nil, or_false] at hy
    rcases hy with rfl | rfl
    · exact ks
    · exact kl
  have hxL : x ≠ s.heap.objs.size := Nat.ne_of_lt (Heap.lt_size hx)
  have X1 : K.In h1 := X.keeps hk1
  have hx1 := hk1 _ _ hx
  have bS : ([("self", .ref x), (fl, v)] : List (Str × Value)).reverse.lookup ("self" : Str) = some (.ref x) := by
    show List.lookup ("self" : Str) [(fl, v), ("self", .ref x)] = some (.ref x)
    rw [List.lookup_cons, beq_swap hn1]
    simp
  have bF : ([("self", .ref x), (fl, v)] : List (Str × Value)).reverse.lookup fl = some v := by
    show List.lookup fl [(fl, v), ("self", .ref x)] = some v
    simp
  show _root_.PySem.wpAt _ (A.deeper (ksEnv qi (iS fl) s.heap.objs.size fI (.ref cda) cc)) (.func (iB fl z) (ksEnv qi (iS fl) s.heap.objs.size fI (.ref cda) cc)) (execs (iB fl z) (ksEnv qi (iS fl) s.heap.objs.size fI (.ref cda) cc)) _ _ _
  obtain ⟨mb, hB, hBB⟩ := B
  have D1 : ∃ oD cdD, h1.get? C = some oD ∧ oD.data = .cls cdD := ⟨_, _, X1 _ _ hC, rfl⟩
  obtain ⟨oD, cdD, hD1, hD2⟩ := D1
  refine ks_wpAt_execs_cons (ks_wpAt_Expr_any (ks_wpAt_MethodCall ?_ (super_call fl z.q4 z.q3 z.q5 z.q1 z.q2 (ksEnv qi (iS fl) s.heap.objs.size fI (.ref cda) cc) hz)))
  refine ks_wpAt_super_base (env := ksEnv qi (iS fl) s.heap.objs.size fI (.ref cda) cc) kg kc rfl rfl (X1 _ _ ho) rfl rfl rfl (X1 _ _ hcode) rfl hvs hfile T.top ?_
  refine ks_loadName_global (x := "super") rfl kg (loadGlobal_builtin (env := ksEnv qi (iS fl) s.heap.objs.size fI (.ref cda) cc) (G.keeps hk1) T.sg (hB.keeps hk1) ((hBB _ (by decide +kernel)).trans (by decide +kernel)) ⟨rfl, ?_⟩)
  refine wpAny_loadName_free rfl kc rfl ⟨_, X1 _ _ hcell, rfl⟩ ?_
  refine wpAny_loadName_local rfl ks hns bS ?_
  refine ks_wpAny_isType_cls hD1 hD2 ⟨rfl, ?_⟩
  refine ks_wpAny_call_super hD1 hD2 hx1 rfl (fun c e => by cases e) (looks_mroIn X1 T.slf) (fun h2 e2 k2 => ?_)
  have X2 : K.In h2 := X1.keeps k2
  have hx2 := k2 _ _ hx1
  have xC : x ≠ C := fun e => by rw [e] at hnx; rw [hnx] at hC; cases hC
  have I2 : InstAt h2 x (excO C t0) C none := ⟨hx2, rfl, rfl, trivial⟩
  have up : alongIn K "__init__" (((.ref C :: bm : List Value).dropWhile (· != .ref C)).drop 1) = some (some (.builtin "ValueError.__init__")) := by
    have u := T.up
    unfold ks_superIn at u
    rw [hcl] at u
    exact u
  refine kxs_getMethod kxs_ValueError e2 (looks_opaque X2 T.ou) (l₀ := .ref C :: bm) (fun A Q E s k q => wpAny_bind ((looks_clsIn X2 hcl) A _ E s k (wpAny_pure q))) rfl X2 up (I2.type.andThen (looks_subIn X2 T.vaC)) xC rfl ?_
  have hu : (h2.push (kxs_mw "ValueError.__init__" x)).get? h2.objs.size = some (kxs_mw "ValueError.__init__" x) := Heap.get?_push_at rfl rfl
  have k3 : ∀ b o, h2.get? b = some o → (h2.push (kxs_mw "ValueError.__init__" x)).get? b = some o := fun b o e => Heap.get?_push_of_some _ e
  have ns2 : h2.Ns s.heap.objs.size fun y => ([("self", .ref x), (fl, v)] : List (Str × Value)).reverse.lookup y := hns.keeps k2
  show wpAny _ _ (callWith z.q5 (.ref h2.objs.size) [] (backTo z.q5 (starEach [.Name fl z.q4] (ksEnv qi (iS fl) s.heap.objs.size fI (.ref cda) cc))) []) _ _ _
  refine kxs_callWith (i := "ValueError.__init__") (x := x) rfl (evalArgs_plain ?_)
  show wpAny _ _ (spliced ((false, eval (.Name fl z.q4) (ksEnv qi (iS fl) s.heap.objs.size fI (.ref cda) cc)) :: backTo z.q5 (starEach [] (ksEnv qi (iS fl) s.heap.objs.size fI (.ref cda) cc)))) _ _ _
  refine Calls.spliced_cons (wpAny_Name (wpAny_loadName_local rfl kl (ns2.keeps k3) bF ?_) fo.n4)
  refine Calls.spliced_nil ⟨hu, ?_⟩
  refine mw_call (C := C) (x := x) (t0 := t0) ((X2.keeps k3) _ _ hC) hu (k3 _ _ hx2) (by rw [sizeLine_eq]; exact (by decide : 1 ≤ 16777216)) fun h4 t1 k4 hx4 => ?_
  -- self.fl = v
  have k04 : ∀ b o, b ≠ x → h1.get? b = some o → h4.get? b = some o := fun b o hb e => k4 b o hb (k3 b o (k2 b o e))
  have X4 : K.In h4 := fun b o e => k04 b o (fun q => by rw [q, hnx] at e; cases e) (X1 b o e)
  have ns4 : h4.Ns s.heap.objs.size fun y => ([("self", .ref x), (fl, v)] : List (Str × Value)).reverse.lookup y := by
    obtain ⟨oL, es, ep, hL, r⟩ := ns2.keeps k3
    exact ⟨oL, es, ep, k4 _ _ (Ne.symm hxL) hL, r⟩
  show _root_.PySem.wpAt _ _ _ (execs [_] _) _ _ _
  refine ks_wpAt_execs_cons (wpAt_of_wpAny (plainObj_wpAny_Assign_Attribute ?_))
  refine wpAny_Name (wpAny_loadName_local rfl kl ns4 bF ?_) fo.n4
  refine wpAny_Name (wpAny_loadName_local rfl ks ns4 bS ?_) (by decide)
  refine set_plain X4 (ox := excO C t1) (od := none) ⟨hx4, rfl, rfl, trivial⟩ T.sa ?_
  refine exc_osa X4 hx4 hcl (show refsVE (.ref C :: bm) = true from hbm) rfl T.noN (fun h5 tk5 dx k5 dn dne hx5 hn5 => ?_)
  show _root_.PySem.wpAt _ _ _ (execs [] _) _ _ _
  refine wpAt_of_wpAny (wpAny_execs_nil ?_)
  have old : ∀ b o, b ≠ x → s.heap.get? b = some o → h5.get? b = some o := fun b o hb e => k5 b o hb (k04 b o hb (hk1 b o e))
  have zsz : s.heap.objs.size ≤ dx := by
    obtain ⟨oL, es, ep, hL, r⟩ := ns4
    exact Nat.le_trans (Nat.le_of_lt (Heap.lt_size hL)) dn
  exact hq h5 tk5 dx t1 ⟨old, hx5, zsz, dne, hn5⟩

/-- a made exception -/
structure OwnMade (h h' : Heap) (e C d : Addr) (fl : Str) (v : Value) : Prop where
  keep : ∀ b o, h.get? b = some o → h'.get? b = some o
  new : h.objs.size ≤ e
  obj : ∃ oe vs, h'.get? e = some oe ∧ oe.cls = .ref C ∧ oe.dict = some d ∧ oe.data = .fields vs ∧ vs[1]? = some .none
  dbig : h.objs.size ≤ d
  dne : d ≠ e
  ns : h'.Ns1 d (fun y => if y = fl then some v else none)
theorem err_made (T : ErrTxt prog K mg nm qi fl C fI) {v : Value} (X : K.In s.heap) (G : s.heap.Ns mainGlobals mg) (B : ∃ mb, s.heap.Ns builtinsNs mb ∧ ∀ y : Str, y ≠ "__name__" → mb y = bootBuiltins y)
    (hlim : s.heap.NoLimit) (hroom : A.depth + 1 < recursionLimit)
    (hq : ∀ h' tk e d, OwnMade s.heap h' e C d fl v → R (.ok (.ret (.ref e))) { s with heap := h', toks := tk }) :
    codeAny (model prog w) A (.call (.ref C) ⟨[v], []⟩) R s := by
  obtain ⟨nm', q, N, bs, bm, sn, sub, ab, col, dd, k0, k1, k2, k3, k5, hC, hbm⟩ := T.cls
  obtain ⟨hp, g, dr, tk, os⟩ := s
  have k : ∀ b o, hp.get? b = some o → ((hp.push (kdv_tup [v])).push (excO C hp.objs.size)).get? b = some o := fun b o e => Heap.get?_push_of_some _ (Heap.get?_push_of_some _ e)
  have hget : ((hp.push (kdv_tup [v])).push (excO C hp.objs.size)).get? (hp.objs.size + 1) = some (excO C hp.objs.size) := by heap_get
  have hnx : K.lookup (hp.objs.size + 1) = none := by
    cases e : K.lookup (hp.objs.size + 1) with
    | none => rfl
    | some o =>
      have z : hp.get? (hp.objs.size + 1) = some o := X _ _ e
      exact absurd (Nat.lt_of_succ_lt (Heap.lt_size z)) (Nat.lt_irrefl _)
  have one : [v].length ≤ sizeLine := by
    rw [sizeLine_eq]
    exact (by decide : 1 ≤ 16777216)
  obtain ⟨mb, hB, hBB⟩ := B
  refine call_own F.excBase_ValueError (fun Y => refsVE_contains Y bm hbm) (X _ _ hC) (looks_findIn X T.iC) (fun self => bind_fn X self T.tC) one ?_
  refine err_init (s := ⟨(hp.push (kdv_tup [v])).push (excO C hp.objs.size), g, dr, tk, os⟩) T (X.keeps k) (G.keeps k) ⟨mb, hB.keeps k, hBB⟩ (hlim.keeps k) hget hnx ?_ fun h' tk' dx t1 ⟨k', hx, dn, dne, hns⟩ => ?_
  · show A.depth + 1 < recursionLimit
    exact hroom
  · have old : ∀ b o, hp.get? b = some o → h'.get? b = some o := fun b o e => k' b o (Nat.ne_of_lt (Nat.lt_succ_of_lt (Heap.lt_size e))) (k b o e)
    have z : hp.objs.size + 1 + 1 ≤ dx := by
      first
        | (simpa only [Heap.size_push] using dn)
        | exact dn
        | (have q := dn; rw [Heap.size_push, Heap.size_push] at q; exact q)
    exact ⟨rfl, hq h' tk' (hp.objs.size + 1) dx ⟨old, Nat.le_succ _, ⟨_, _, hx, rfl, rfl, rfl, rfl⟩, Nat.le_trans (Nat.le_trans (Nat.le_succ _) (Nat.le_succ _)) z, dne, hns⟩⟩
end
end ErrX
end PySem
namespace L2
open PySem PySem.Spec PyProof.Rows
theorem relO_fl {v : V} {v' : Value} {fl : Str} (r : RelV v v') (f : Str) : RelO (List.lookup f [(fl, v)]) (if f = fl then some v' else none) := by
  by_cases hw : f = fl
  · subst hw
    rw [if_pos rfl]
    have q : List.lookup f [(f, v)] = some v := by simp [List.lookup]
    rw [q]
    exact r
  · rw [if_neg hw]
    have qw : (f == fl) = false := by simpa using hw
    have q2 : List.lookup f [(fl, v)] = none := by simp [List.lookup, qw]
    rw [q2]
    trivial
section
variable {X : Cx} {C fI : Addr} {nm qi fl : Str}
/-- nm(e) -/
def tMkErr (C : Addr) (fl : Str) (ta : TA) : St → Hp → XK → Prop := fun σ H Q => ta σ H fun vs H1 => ∃ v, vs = [v] ∧ ∀ d, H1 d = none → Q (.ref C) (some d) (upd H1 d (.xd [(fl, v)]))
theorem pmk_err {a : Expr} {ta : TA} {p pos : Pos} {k : Nat} (T : PySem.ErrX.ErrTxt X.prog X.K X.mg nm qi fl C fI) (hr : Room k X.A) (ha : PA X [a] ta) (hg : Gl X nm := by rfl) (hdb : (nm == ("__debug__" : Str)) = false := by decide)
    (he : starEach (a :: []) X.env = (false, eval a X.env) :: starEach [] X.env := by rfl) (hpl : (backTo pos (starEach [] X.env)).any (·.1) = false := by rfl) :
    PMk X (.Call (.Name nm p) [a] [] pos) (tMkErr C fl ta) := by
  intro pins s σ H Q I h
  refine wpAny_Call_Name_kw (ld_glob I hg T.gC ?_ hdb)
  refine PySem.W.callWith_K (h₀ := X.base) I.ok.mod.kin T.kC (thn (ha.run pos pins s σ H _ I h) fun us s1 hh => ?_) he hpl
  obtain ⟨vs, H1, I1, r1, v, ev, q1⟩ := hh
  subst ev
  refine ⟨I1.kIn, ?_⟩
  cases r1 with
  | cons rv rn =>
    rename_i v' us'
    cases rn
    show wpAny _ _ (call (.ref C) [v']) _ _ _
    have hlim := I1.nolimit
    have hgl : s1.heap.Ns mainGlobals X.mg := I1.ok.mod.glob.keeps I1.bk
    obtain ⟨mb, hB, hBB⟩ := I1.ok.mod.blt
    have hB1 := hB.keeps I1.bk
    obtain ⟨hp, g, dr, tk, os⟩ := s1
    refine wpAny_call (PySem.ErrX.err_made T I1.kIn hgl ⟨mb, hB1, hBB⟩ hlim (by have := hr.dp; omega) fun h' tk' e d M => ?_)
    show MkP X pins σ Q (.ref e) ⟨h', g, dr, tk', os⟩
    obtain ⟨oe, fv, hoe, hc, hd, hdat, h1⟩ := M.obj
    have hns := M.ns
    obtain ⟨G', g1, g2⟩ := restrict h' fun b => decide (b ≠ e)
    have gk : ∀ b, b ≠ e → G'.get? b = h'.get? b := fun b hb => g1 b (decide_eq_true hb)
    have ge : G'.get? e = none := g2 e (by simp)
    have old : ∀ b o, hp.get? b = some o → G'.get? b = some o := fun b o q => (gk b (Nat.ne_of_lt (Nat.lt_of_lt_of_le (Heap.lt_size q) M.new))).trans (M.keep b o q)
    have ob : ObjOk X.prog X.w (upd H1 d (.xd [(fl, v)])) G' d (.xd [(fl, v)]) :=
      ⟨_, hns.at (fun o q => (gk d M.dne).trans q), fun f => relO_fl rv f⟩
    have J : Inv X pins σ (upd H1 d (.xd [(fl, v)])) ⟨G', g, dr, tk', os⟩ := I1.laid (t' := tk') old M.dbig ob
    refine ⟨e, oe, fv, ⟨G', g, dr, tk', os⟩, _, .ref C, some d, rfl, J, fun b o q => ?_, ge, hoe, ⟨hc, hd⟩, hdat, h1, ?_, rfl, I1.bare, raises_own T.exC T.tyC, q1 d (I1.hok.fresh M.dbig)⟩
    · by_cases hb : b = e
      · have q' : G'.get? b = some o := q
        rw [hb, ge] at q'; cases q'
      · exact (gk b hb).symm.trans q
    · rw [upd_ne (Ne.symm M.dne)]
      exact I1.hok.fresh M.new
/-- raise nm(e) -/
def tRaiseErr (C : Addr) (fl : Str) (W : WX) (ta : TA) : TS := fun _ σ H => tMkErr C fl ta σ H fun cls d H' => W cls d σ H'
theorem ps_raiseErr {a : Expr} {ta : TA} {W : WX} {p pos pos2 : Pos} {k : Nat} (hc : X.calm = true) (T : PySem.ErrX.ErrTxt X.prog X.K X.mg nm qi fl C fI) (hr : Room k X.A) (tk : Takes X W) (ha : PA X [a] ta) (hg : Gl X nm := by rfl) (hdb : (nm == ("__debug__" : Str)) = false := by decide)
    (he : starEach (a :: []) X.env = (false, eval a X.env) :: starEach [] X.env := by rfl) (hpl : (backTo pos (starEach [] X.env)).any (·.1) = false := by rfl) :
    PS X (.Raise (some (.Call (.Name nm p) [a] [] pos)) none pos2) (tRaiseErr C fl W ta) := ps_raise hc tk (pmk_err T hr ha hg hdb he hpl)
end
end L2

set_option maxRecDepth 100000
set_option maxHeartbeats 2000000
/-! try with several clauses, each with or without a name. -/
namespace L2
open PySem PySem.Spec PyProof.Rows
/-- a clause: its class, its suite's reading, the slot of its name -/
structure Cl where
  c : Value
  ts : Addr → Value → Option Addr → TS
  i : Option Nat
/-- behind a named clause the name is gone -/
def endsAt (i : Nat) (D : Ends) : Ends := { nx := fun σ' H' => D.nx (σ'.set i none) H', rt := D.rt, bk := fun σ' H' => D.bk (σ'.set i none) H', ct := fun σ' H' => D.ct (σ'.set i none) H' }
def suiteOf (cl : Cl) (D : Ends) (a : Addr) (cls : Value) (d : Option Addr) (σ : St) (H : Hp) : Prop := match cl.i with
  | none => cl.ts a cls d D σ H
  | some i => cl.ts a cls d (endsAt i D) (σ.set i (some (.ref a))) H
def wCls (K : PySem.W.Frag) (D : Ends) : List Cl → WX
  | [] => fun _ _ _ _ => False
  | cl :: r => fun cls d σ H => ∃ b, PySem.W.exmOne K cls cl.c = some b ∧ (b = true → ∀ a, H a = none → suiteOf cl D a cls d σ H) ∧ (b = false → wCls K D r cls d σ H)
inductive ClsOk (X : Cx) : List ExceptHandler → List Cl → Prop
  | nil : ClsOk X [] []
  | bare {x : Str} {c : Value} {ts : Addr → Value → Option Addr → TS} {b₀ : Stmt} {suite : List Stmt} {np pos' : Pos} {hds : List ExceptHandler} {l : List Cl} (hc : Names X x c)
      (hsu : ∀ (a : Addr) (oe : Obj) (cls : Value) (d : Option Addr) (pn : List (Addr × Obj)), Zc cls d oe → (∃ vs, oe.data = .fields vs) → PSs (X.suite a ((a, oe) :: pn)) (b₀ :: suite) (ts a cls d)) (r : ClsOk X hds l) :
      ClsOk X (.ExceptHandler (some (.Name x np)) none (b₀ :: suite) pos' :: hds) (⟨c, ts, none⟩ :: l)
  | named {x n : Str} {i : Nat} {c : Value} {ts : Addr → Value → Option Addr → TS} {b₀ : Stmt} {suite : List Stmt} {np pos' : Pos} {hds : List ExceptHandler} {l : List Cl} (hc : Names X x c)
      (hi : X.N[i]? = some n) (hln : X.env.kindOf n = some .local)
      (hsu : ∀ (a : Addr) (oe : Obj) (cls : Value) (d : Option Addr) (pn : List (Addr × Obj)), Zc cls d oe → (∃ vs, oe.data = .fields vs) → PSs (X.suite a ((a, oe) :: pn)) (b₀ :: suite) (ts a cls d)) (r : ClsOk X hds l) :
      ClsOk X (.ExceptHandler (some (.Name x np)) (some n) (b₀ :: suite) pos' :: hds) (⟨c, ts, some i⟩ :: l)
section
variable {X : Cx} {body : List Stmt} {h₀ : ExceptHandler} {hds : List ExceptHandler} {l : List Cl} {pos : Pos} {tb : WX → TS}
/-- the exception lands in the frame and goes along the clauses; what none of them takes can't be -/
theorem ps_try_cls (hs : X.stack = X.env :: X.outer) (hf : X.env.frame = some X.env.locals) (hN : X.N.Nodup)
    (hb : ∀ (W : WX) (pn : List (Addr × Obj)) (xe : Value → Shared → Prop), Takes (X.tr pn xe) W → PassesOwn (model X.prog X.w) X.A X.env xe → PSs (X.tr pn xe) body (tb W))
    (hh : ClsOk X (h₀ :: hds) l) : PS X (.Try body (h₀ :: hds) [] [] pos) (fun D σ H => tb (fun cls d σ' H' => σ'.length = X.N.length → wCls X.K D l cls d σ' H') D σ H) := by
  refine ⟨fun pins s σ H D I h => ?_⟩
  have ok := I.ok
  have hfr : X.A.frames = some (X.env :: X.outer) := by rw [ok.frames, hs]
  refine wpAny_Try_except ?_
  have bodyRun := (hb (fun cls d σ' H' => σ'.length = X.N.length → wCls X.K D l cls d σ' H') (X.pn ++ pins) (fun e s₁ => wpAny (model X.prog X.w) X.A (noteFrame e X.env) (fun _ s₂ => wpAny (model X.prog X.w) X.A (setFlight e none) (fun _ s₃ =>
    wpAny (model X.prog X.w) X.A (handleBy e X.env (h₀ :: hds)) (SP X pins D) X.xe s₃) X.xe s₂) X.xe s₁) ?_ PassesOwn.looking).run [] s σ H D (I.toTry _) h
  · refine wpAny_mono bodyRun (fun f s1 hsp => ?_) fun e s1 he => he
    cases f with
    | next => obtain ⟨σ', H', J, q⟩ := hsp; exact wpAny_execs_nil ⟨σ', H', J.ofTry ok, q⟩
    | brk => obtain ⟨σ', H', J, q⟩ := hsp; exact ⟨σ', H', J.ofTry ok, q⟩
    | cont => obtain ⟨σ', H', J, q⟩ := hsp; exact ⟨σ', H', J.ofTry ok, q⟩
    | ret u => obtain ⟨v, σ', H', J, r, q⟩ := hsp; exact ⟨v, σ', H', J.ofTry ok, r, q⟩
  · intro u s' xx
    obtain ⟨a, B, sI, pins', σ', H', cls, d, rfl, J', nb, up, sky, na, os, ag, wish⟩ := xx
    have J : Inv X pins σ' H' sI := J'.ofTry ok
    rw [hs] at sky
    refine Sky.land Zc.steady hfr hf sky fun h3 fl3 up3 => ?_
    have J3 : Inv X pins σ' H' { s' with heap := h3 } := J.landed nb fl3.1 (up.trans up3) os ag
    obtain ⟨oe3, vs3, he3, hz3, hd3⟩ := fl3.there
    have nfr : a ∉ frs (X.env :: X.outer) := fun hm => by
      obtain ⟨_, o', e', hnf⟩ := fl3.2.2.1.mem hm
      rw [he3] at e'
      cases e'
      exact hnf _ hd3
    have nL : a ≠ X.env.locals := fun z => nfr (List.mem_filterMap.mpr ⟨X.env, List.mem_cons_self, by rw [hf, z]⟩)
    have nF : a ∉ X.fs := fun hm => by
      obtain ⟨e, he, q⟩ := List.mem_filterMap.mp hm
      exact nfr (List.mem_filterMap.mpr ⟨e, List.mem_cons_of_mem _ he, q⟩)
    have S3 := J3.suite he3 hd3 na nL nF
    have LT : PySem.W.Looks (model X.prog X.w) h3 (typeOf (.ref a)) cls := fun A Q E s k q => wpAny_typeOf_ref (k _ _ he3) (by rw [hz3.1]; exact q)
    have test : ∀ {x : Str} {c : Value} {np : Pos} {Q : Value → Shared → Prop} {E : Value → Shared → Prop}, Names X x c → Q c { s' with heap := h3 } → wpAny (model X.prog X.w) (X.A.mark (some (.ref a))) (eval (.Name x np) X.env) Q E { s' with heap := h3 } := fun {x c np Q E} hc q => by
      obtain ⟨hg, hdbg, hm | ⟨hm, hv, hnn⟩⟩ := hc
      · exact ld_glob (X := X.suite a ((a, oe3) :: (X.pn ++ pins))) S3 hg hm q hdbg
      · exact ld_blt (X := X.suite a ((a, oe3) :: (X.pn ++ pins))) S3 hg hm hv q hnn hdbg
    have go : ∀ {hs' : List ExceptHandler} {l' : List Cl}, ClsOk X hs' l' → wCls X.K D l' cls d σ' H' → wpAny (model X.prog X.w) X.A (handleBy (.ref a) X.env hs') (SP X pins D) X.xe { s' with heap := h3 } := by
      intro hs' l' hk
      induction hk with
      | nil => exact fun w => w.elim
      | @bare x c ts b₀ suite np pos' hds2 l2 hc hsu r ih =>
        rintro ⟨b, hb1, hyes, hno⟩
        refine wpAny_handleBy_cons (codeAny_handlers_test ?_) (by intro q; cases q)
        refine test hc ((PySem.W.exm_one (M := model X.prog X.w) J3.kIn LT hb1).here ?_)
        cases b with
        | false => exact ih (hno rfl)
        | true =>
          refine codeAny_handlers_suite ?_
          refine HandSPX.lands_againZ fl3 fun h4 fl4 up4 => ?_
          have J4 : Inv X pins σ' H' { s' with heap := h4 } := J.landed nb fl4.1 ((up.trans up3).trans up4) os ag
          obtain ⟨oe4, vs4, he4, hz4, hd4⟩ := fl4.there
          refine wpAny_mono ((hsu a oe4 cls d (X.pn ++ pins) hz4 ⟨_, hd4⟩).run [] _ _ H' _ (J4.suite he4 hd4 na nL nF) (hyes rfl a na)) (fun f s6 hsp => ?_) fun _ _ z => z.elim
          cases f with
          | next => obtain ⟨σ6, H6, S6, q6⟩ := hsp; exact ⟨_, _, S6.unsuite ok, q6⟩
          | brk => obtain ⟨σ6, H6, S6, q6⟩ := hsp; exact ⟨_, _, S6.unsuite ok, q6⟩
          | cont => obtain ⟨σ6, H6, S6, q6⟩ := hsp; exact ⟨_, _, S6.unsuite ok, q6⟩
          | ret u => obtain ⟨v6, σ6, H6, S6, r6, q6⟩ := hsp; exact ⟨_, _, _, S6.unsuite ok, r6, q6⟩
      | @named x n i c ts b₀ suite np pos' hds2 l2 hc hi hln hsu r ih =>
        rintro ⟨b, hb1, hyes, hno⟩
        refine wpAny_handleBy_cons (codeAny_handlers_test ?_) (by intro q; cases q)
        refine test hc ((PySem.W.exm_one (M := model X.prog X.w) J3.kIn LT hb1).here ?_)
        cases b with
        | false => exact ih (hno rfl)
        | true =>
          refine codeAny_handlers_suite_as ?_
          refine HandSPX.lands_againZ fl3 fun h4 fl4 up4 => ?_
          have J4 : Inv X pins σ' H' { s' with heap := h4 } := J.landed nb fl4.1 ((up.trans up3).trans up4) os ag
          obtain ⟨oe4, vs4, he4, hz4, hd4⟩ := fl4.there
          refine store_ok (X := X.suite a ((a, oe4) :: (X.pn ++ pins))) (v := .ref a) (J4.suite he4 hd4 na nL nF) hN hi (.inl hln) rfl (fun s5 S5 => ?_) (.inr hln)
          refine wpAny_mono ((hsu a oe4 cls d (X.pn ++ pins) hz4 ⟨_, hd4⟩).run [] s5 _ H' _ S5 (hyes rfl a na)) (fun f s6 hsp => ?_) fun _ _ z => z.elim
          have fin : ∀ {σ6 : St} {H6 : Hp} {Q : Shared → Prop}, Inv (X.suite a ((a, oe4) :: (X.pn ++ pins))) [] σ6 H6 s6 → (∀ s7, Inv X pins (σ6.set i none) H6 s7 → Q s7) →
              wpAny (model X.prog X.w) X.A (do bindName X.env n .none; unbindBehindTheSuite X.env n pos') (fun _ s7 => Q s7) X.xe s6 := fun S6 hq => gone_ok (S6.unsuite ok) hN hi hln hq
          cases f with
          | next => obtain ⟨σ6, H6, S6, q6⟩ := hsp; exact fin S6 fun s7 J7 => ⟨_, _, J7, q6⟩
          | brk => obtain ⟨σ6, H6, S6, q6⟩ := hsp; exact fin S6 fun s7 J7 => ⟨_, _, J7, q6⟩
          | cont => obtain ⟨σ6, H6, S6, q6⟩ := hsp; exact fin S6 fun s7 J7 => ⟨_, _, J7, q6⟩
          | ret u => obtain ⟨v6, σ6, H6, S6, r6, q6⟩ := hsp; exact fin S6 fun s7 J7 => ⟨_, _, _, J7, r6, q6⟩
    exact go hh (wish J'.len)
end
end L2

set_option maxRecDepth 100000
set_option maxHeartbeats 2000000
/-! More rules: enumerate over a tuple; xs[i] op= e. -/
namespace PySem
open Sem (wp)
theorem meets_enum1B {v : Value} {o : Obj} {H : Heap → Prop} (B : Begins v o H) :
    Meets (Builtin.«enumerate.__new__» ⟨[.type "enumerate", v], []⟩) (fun _ R s => H s.heap ∧
      R (.ok (.ret (.ref (s.heap.push o).objs.size))) { s with heap := (s.heap.push o).push { cls := .type "enumerate", data := .fields #[.none, .bool false, .ref s.heap.objs.size, rawInt 0, .none, .none] } }) :=
  .of_wp fun prog w A R s h => by
    obtain ⟨hp, g, d, tk, os⟩ := s
    obtain ⟨h1, h⟩ := h
    have hsub := sub_enumerate
    have q1 : ∀ {A' : Around} {E : Value → Shared → Prop} {Q : Value → Shared → Prop}, Q (.ref hp.objs.size) ⟨hp.push o, g, d, tk, os⟩ → wpAny (model prog w) A' (pyIter v) Q E ⟨hp, g, d, tk, os⟩ :=
      fun q => B.iter prog w _ _ ⟨hp, g, d, tk, os⟩ _ h1 q
    wp_walk using q1
    refine wpAny_stack_any fun st => wpAny_pure ?_
    split
    · rename_i c _ _ _ _ _
      cases (c == Value.type "enumerate") <;> (wp_walk using q1; exact ⟨_, rfl, h⟩)
    · wp_walk using q1
      exact ⟨_, rfl, h⟩
theorem enum1_begins {prog : Program} {w : World} {A : Around} {E : Value → Shared → Prop} {s : Shared} {v : Value} {o : Obj} {H : Heap → Prop} {Q : Value → Shared → Prop} (B : Begins v o H) (h1 : H s.heap)
    (h : ∀ h', IsEnum h' (s.heap.objs.size + 1) s.heap.objs.size 0 .none → h'.get? s.heap.objs.size = some o → h'.objs.size = s.heap.objs.size + 2 →
      (∀ b o, s.heap.get? b = some o → h'.get? b = some o) → Q (.ref (s.heap.objs.size + 1)) { s with heap := h' }) :
    wpAny (model prog w) A (call (.type "enumerate") [v]) Q E s := by
  refine callType_new F.called_enumerate (by decide) (F.typeCall_enumerate_1 _) (F.newCall_enumerate_1 _) (fun obj => F.args_object_init_2 obj _) F.entry_enumerate_new (meets_enum1B B) ⟨h1, ?_⟩
  have hz : (s.heap.push o).objs.size = s.heap.objs.size + 1 := Heap.size_push ..
  show _ ∧ _
  rw [hz]
  have he := Heap.get?_push_size (s.heap.push o) (o := { cls := .type "enumerate", data := .fields #[.none, .bool false, .ref s.heap.objs.size, rawInt 0, .none, .none] }) rfl
  rw [hz] at he
  exact ⟨⟨_, he, rfl⟩, h _ he (Heap.get?_push_of_some _ (Heap.get?_push_size _ B.free)) (by rw [Heap.size_push, hz]) fun b o x => Heap.get?_push_of_some _ (Heap.get?_push_of_some _ x)⟩
end PySem
namespace L2
open PySem PySem.Spec PyProof.Rows
/-- the tuple at a, each item in a new pair with its place -/
def IteT (K : PySem.W.Frag) (a : Addr) : It :=
  ⟨fun i H => ∃ (xs : List V) (x : V), SqT K H a xs ∧ xs[i]? = some x, fun i H v H' => ∃ T x, v = .ref T ∧ H T = none ∧ H' = upd H T (.tup [.int (i : Nat), x]) ∧ ∀ xs, SqT K H a xs → xs[i]? = some x, fun i H => ∃ xs : List V, SqT K H a xs ∧ xs.length = i⟩
theorem turn_enumT {P : Program} {w : World} {K : PySem.W.Frag} {elts : List Expr} {kk : Nat} {tpos : Pos} (a e it : Addr) (hae : a ≠ e) (hai : a ≠ it) (its : Array Value) :
    Turn P w K (.Tuple elts kk tpos) (IteT K a) [e, it] e (fun i h => (∃ old, IsEnum h e it ((i : Nat) : Int) old) ∧ h.IsTupleIter it a i ∧ e ≠ it) where
  mem := by simp
  obj := fun i h st b hb => by
    obtain ⟨⟨old, he⟩, ⟨o, ho, hc, hd⟩, _⟩ := st
    have e' : b = e ∨ b = it := by simpa using hb
    rcases e' with z | z
    · rw [z]; exact ⟨_, he, fun v q => nomatch q⟩
    · rw [z]; exact ⟨o, ho, fun v q => by rw [hd] at q; cases q⟩
  keep := fun i h h' st k => let ⟨⟨old, he⟩, hi, hne⟩ := st; ⟨⟨old, k e (by simp) _ he⟩, hi.at fun o q => k it (by simp) o q, hne⟩
  item := by
    intro X hP hw hK hc i pins s σ H E I hf st hg
    subst hP hw hK
    obtain ⟨⟨old, he⟩, hit, hne⟩ := st
    obtain ⟨xs, x, hq, hx⟩ := hg
    obtain ⟨us, rv, p, hz⟩ := I.tuple hq
    obtain ⟨u, hu, ru⟩ := rv.get hx
    have hel : e < s.heap.objs.size := Heap.lt_size he
    have hil : it < s.heap.objs.size := by obtain ⟨_, q, _⟩ := hit; exact Heap.lt_size q
    have hlt : i < us.toArray.size := by
      have := (List.getElem?_eq_some_iff.mp hu).1
      simpa using this
    have D : Draws X.prog X.w X.A.in1 it [it, a] us.toArray.size (fun i v => us.toArray[i]? = some v) (fun i h => h.IsTupleIter it a i ∧ h.IsTuple a us.toArray) := Draws.tuple (A := X.A.in1) (show X.A.in1.handled = none from I.ok.hd hc) it a hai us.toArray
    refine wpAny_pyNext_enum_itemD D he ⟨hit, p⟩ hlt hne (by simp [hne, Ne.symm hae]) fun y h' tk hy ho hit' hT hsz hk => ?_
    have ey : y = u := by
      have h2 : us.toArray[i]? = some u := by simpa using hu
      rw [h2] at hy
      exact (Option.some.inj hy).symm
    subst ey
    refine ⟨_, rfl, wpAny_letOwnedTupleGo_enum (s := { s with heap := h', toks := tk + 1 }) ho fun h'' he' sb => ?_⟩
    have hT2 : h''.get? s.heap.objs.size = some { cls := .type "tuple", data := .seq #[.int i tk, y] } := (sb.2 _ (Nat.ne_of_gt hel)).trans hT
    have new : ObjOk X.prog X.w (upd H s.heap.objs.size (.tup [.int (i : Nat), x])) h'' s.heap.objs.size (.tup [.int (i : Nat), x]) :=
      ⟨by show 2 ≤ sizeLine; decide, [.int i tk, y], .cons ⟨_, rfl⟩ (.cons ru .nil), ⟨_, hT2, rfl, _, rfl⟩⟩
    have I1 : Inv X pins σ (upd H s.heap.objs.size (.tup [.int (i : Nat), x])) { s with heap := h'', toks := tk + 1 } :=
      I.turnedNew (ch := [e, it]) (fun b ob hb q => (sb.2 b (fun z => hb (by simp [z]))).trans (hk b ob (fun z => hb (by simp [z])) (fun z => hb (by simp [z])) q)) hf (Nat.le_refl _) new
    refine ⟨.ref s.heap.objs.size, _, I1, rfl, ⟨_, x, rfl, I.hok.fresh (Nat.le_refl _), rfl, fun ys hy => ?_⟩, ⟨⟨y, ?_⟩, hit'.1.at fun o q => (sb.2 it (Ne.symm hne)).trans q, hne⟩, fun b hb => ?_⟩
    · rw [I.tuple_inj hy hq]
      exact hx
    · have e1 : ((i + 1 : Nat) : Int) = (i : Int) + 1 := by omega
      rw [e1]
      exact he'
    · have hb' : b < s.heap.objs.size := by
        have e' : b = e ∨ b = it := by simpa using hb
        rcases e' with z | z
        · rw [z]; exact hel
        · rw [z]; exact hil
      rw [upd_ne (Nat.ne_of_lt hb')]
      exact (hf b hb).1
  done := by
    intro X hP hw hK hc i pins s σ H E I hf st hg
    subst hP hw hK
    obtain ⟨⟨old, he⟩, hit, hne⟩ := st
    obtain ⟨xs, hq, hx⟩ := hg
    obtain ⟨us, rv, p, hz⟩ := I.tuple hq
    obtain ⟨f0, f1, f2, f3, f4, f5⟩ := hf it (by simp)
    have hl := rv.length
    have D : Draws X.prog X.w X.A.in1 it [it, a] us.toArray.size (fun i v => us.toArray[i]? = some v) (fun i h => h.IsTupleIter it a i ∧ h.IsTuple a us.toArray) := Draws.tuple (A := X.A.in1) (show X.A.in1.handled = none from I.ok.hd hc) it a hai us.toArray
    have ei : i = us.toArray.size := by
      rw [List.size_toArray]
      omega
    exact wpAny_pyNext_enum_endD D he (by rw [← ei]; exact ⟨hit, p⟩) fun h' eb => ⟨rfl, I.turned (t' := s.toks) (fun b o hb q => eb b o hb q) f0 f1 f3 f4 f5⟩
  self := fun A i s Q E st h => let ⟨⟨_, he⟩, _⟩ := st; wpAny_pyIter_enum he h
def iEnumT (K : PySem.W.Frag) (ta : TA) : TI := fun σ H R => ta σ H fun vs H1 => ∃ a xs, vs = [.ref a] ∧ SqT K H1 a xs ∧ R (IteT K a) H1
theorem pi_enumT {X : Cx} {e : Expr} {ta : TA} {p pos tpos : Pos} {elts : List Expr} {kk : Nat} (hg : Gl X "enumerate") (hm : X.mg "enumerate" = none) (ha : PA X [e] ta) (hs : starEach [e] X.env = [(false, eval e X.env)] := by rfl) :
    PI X (.Tuple elts kk tpos) (.Call (.Name "enumerate" p) [e] [] pos) (iEnumT X.K ta) := by
  refine ⟨fun pins s σ H R I h => ?_⟩
  refine Call_ (ld_blt I hg hm boot_enumerate (PyProof.Rows.callWith_type1 (thn (ha.run pos pins s σ H _ I h) fun us s1 ⟨vs, H1, I1, r1, q1⟩ => ?_) hs rfl))
  obtain ⟨a, xs, ex, hq, q⟩ := q1
  subst ex
  cases r1 with
  | cons r rr =>
    cases rr
    cases r
    obtain ⟨its, rv, p', hz⟩ := I1.tuple hq
    have hlt : a < s1.heap.objs.size := p'.lt
    refine enum1_begins (begins_tuple a its.toArray) p' fun h' he ho hsz hk => wpAny_pyIter_enum he ?_
    have I2 : Inv X pins σ H1 { s1 with heap := h' } := I1.kept (t' := s1.toks) hk
    refine ⟨s1.heap.objs.size + 1, [s1.heap.objs.size + 1, s1.heap.objs.size], _, _, H1, rfl, I2, turn_enumT a (s1.heap.objs.size + 1) s1.heap.objs.size (Nat.ne_of_lt (Nat.lt_succ_of_lt hlt)) (Nat.ne_of_lt hlt) its.toArray, ⟨⟨.none, he⟩, ⟨_, ho, rfl, rfl⟩, Nat.succ_ne_self _⟩, fun b hb => ?_, q⟩
    have e' : b = s1.heap.objs.size + 1 ∨ b = s1.heap.objs.size := by simpa using hb
    have hle : s1.heap.objs.size ≤ b := by
      rcases e' with z | z
      · rw [z]; exact Nat.le_add_right _ _
      · rw [z]; exact Nat.le_refl _
    exact I1.fpOk hle (I1.hok.fresh hle)
/-- for k, x in enumerate(t), t a tuple that stays -/
theorem for_enumT {K : PySem.W.Frag} {a : Addr} {xs : List V} {g : TG} {tb : TS} {D : Ends} {σ : St} {H : Hp} (Pv : Nat → St → Hp → Prop) (h0 : Pv 0 σ H) (hl : ∀ i σ H, i ≤ xs.length → Pv i σ H → SqT K H a xs)
    (hs : ∀ i x T σ H, xs[i]? = some x → H T = none → Pv i σ H → g (.ref T) σ (upd H T (.tup [.int (i : Nat), x])) fun σ2 H2 => tb { D with nx := Pv (i + 1), ct := Pv (i + 1), bk := D.nx } σ2 H2) (hd : ∀ σ H, Pv xs.length σ H → D.nx σ H) :
    ∃ W : Nat → Nat → St → Hp → Prop, (∃ m, W 0 m σ H) ∧ ∀ i m σ H, W i m σ H →
      ((IteT K a).stop i H ∧ D.nx σ H) ∨ ((IteT K a).go i H ∧ ∃ N : St → Hp → Prop, (∀ σ' H', N σ' H' → ∃ m', m' < m ∧ W (i + 1) m' σ' H') ∧ ∀ x H', (IteT K a).yld i H x H' → g x σ H' fun σ2 H2 => tb { D with nx := N, ct := N, bk := D.nx } σ2 H2) := by
  refine ⟨fun i m σ H => m = xs.length - i ∧ i ≤ xs.length ∧ Pv i σ H, ⟨xs.length, by simp, Nat.zero_le _, h0⟩, ?_⟩
  rintro i m σ H ⟨rfl, hi, p⟩
  have q := hl i σ H hi p
  by_cases hlt : i < xs.length
  · refine .inr ⟨⟨xs, xs[i], q, by simp [hlt]⟩, Pv (i + 1), fun σ' H' p' => ⟨xs.length - (i + 1), by omega, rfl, hlt, p'⟩, fun v H' y => ?_⟩
    obtain ⟨T, x, e1, e2, e3, e4⟩ := y
    subst e1 e3
    exact hs i x T σ H (e4 xs q) e2 p
  · have e : i = xs.length := by omega
    subst e
    exact .inl ⟨⟨xs, q, rfl⟩, hd σ H p⟩
/-- xs[i] of a list, read for xs[i] op= e -/
def rGetL (K : PySem.W.Frag) : V → V → Hp → VK → Prop := rIxL K
theorem get_list {X : Cx} : PGet X (rGetL X.K) := by
  intro pins s σ H o i ov iv Q I ro ri h
  obtain ⟨p, xs, k, z, rfl, rfl, hq, he, q⟩ := h
  cases ro
  obtain ⟨t, rfl⟩ := ri
  obtain ⟨its, r, pl, hz⟩ := I.list hq
  obtain ⟨j, h1, h2, h3, h4, h5⟩ := atI_get he
  obtain ⟨w, ew, rw'⟩ := r.get h2
  have hl := r.length
  have hn := line63
  have fin : EP X pins σ Q w s := ⟨z, H, I, rw', q⟩
  by_cases h0 : 0 ≤ k
  · have hj : k.toNat = j := by
      rw [seqIndex_of h0 h5] at h1
      exact Option.some.inj h1
    exact wpAny_getItem_list pl.isList h0 (by omega) (by rw [hj]; simpa using ew) fin
  · have hj : (k + (its.toArray.size : Int)).toNat = j := by
      rw [seqIndex_neg (by omega) h4] at h1
      rw [List.size_toArray, ← hl]
      exact Option.some.inj h1
    exact wpAny_getItem_list_neg pl.isList (by omega) (by rw [List.size_toArray] <;> omega) (by omega) (by rw [hj]; simpa using ew) fin
end L2

set_option maxRecDepth 100000
set_option maxHeartbeats 2000000
namespace L2
open PySem PySem.Spec PySem.W PyProof.Rows
theorem depth_ints : ∀ ns : List Int, PyData.depthAll (ns.map PyData.int) ≤ 1
  | [] => by simp [PyData.depthAll]
  | n :: r => by
    have := depth_ints r
    simp only [List.map_cons, PyData.depthAll, PyData.depth]
    omega
theorem reads_ints {h : Heap} : ∀ {ns : List Int} {us : List Value}, Vals (ns.map V.int) us → ∃ as, ReadsAll h us (ns.map PyData.int) as
  | [], us, r => by
    cases r
    exact ⟨_, .nil⟩
  | n :: r, us, v => by
    cases v with
    | cons rv rn =>
      obtain ⟨t, rfl⟩ := rv
      obtain ⟨as, q⟩ := reads_ints (h := h) rn
      exact ⟨_, .cons (.int n t) q⟩
theorem alike_ints (ns : List Int) : AlikeAll (ns.map PyData.int) := by
  refine ⟨fun x hx y hy => ?_, fun x hx => ?_⟩
  · obtain ⟨i, _, rfl⟩ := List.mem_map.mp hx
    obtain ⟨j, _, rfl⟩ := List.mem_map.mp hy
    rfl
  · obtain ⟨i, _, rfl⟩ := List.mem_map.mp hx
    intro z
    cases z
/-- the greatest of some integers, d of none -/
def mostOf (d : Int) : List Int → Int
  | [] => d
  | n :: r => r.foldl max n
def rMaxD (K : PySem.W.Frag) : List V → List V → Hp → VK → Prop := fun vs ks H Q => ∃ (a : Addr) (ns : List Int) (d : Int), vs = [.ref a] ∧ ks = [.int d] ∧ SqL K H a (ns.map V.int) ∧ Q (.int (mostOf d ns)) H
theorem crk_maxD {X : Cx} (hc : X.calm = true) (hu : X.A.units + 64 < cLine) : CallRK X (.builtin "max") ["default"] (rMaxD X.K) := by
  intro pins s σ H xs zs us ws Q I rx rz h
  obtain ⟨a, ns, d, rfl, rfl, hq, q⟩ := h
  cases rx with
  | cons r1 rn =>
    cases rn
    cases r1
    cases rz with
    | cons r2 rn2 =>
      cases rn2
      obtain ⟨td, rfl⟩ := r2
      obtain ⟨its, rv, pl, hz⟩ := I.list hq
      obtain ⟨as, hr⟩ := reads_ints (h := s.heap) rv
      have hd := depth_ints ns
      refine max_list_default (I.ok.hd hc) pl.isList (by simpa using hr) (alike_ints ns) (by omega) (fun e h' tk k => ?_) fun y ys i v h' tk bs e hv hrd k => ?_
      · have e2 : ns = [] := by simpa using e
        subst e2
        exact ⟨.int d, H, I.kept k, ⟨_, rfl⟩, q⟩
      · cases ns with
        | nil => cases e
        | cons n r =>
          rw [List.map_cons] at e
          injection e with e1 e2
          subst e1 e2
          rw [maxD_ints] at hrd
          cases hrd
          exact ⟨.int (r.foldl max n), H, I.kept k, ⟨_, rfl⟩, q⟩
end L2

set_option maxRecDepth 100000
set_option maxHeartbeats 2000000
/-! More rules: powers of great bases; a text some times; a tuple once or more times. -/
namespace L2
open PySem PySem.Spec PyProof.Rows
section
variable {X : Cx}
def CPowB (i j : Int) : Prop := 0 ≤ j ∧ (Builtin.Int.intBits i : Int) * j ≤ 2 ^ 27
theorem op_powB : OpR X (binaryOp .Pow) (rI CPowB fun i j => .int (i ^ j.toNat)) := opI fun _ _ _ _ _ _ _ hc q => pow_int hc.1 hc.2 q
theorem fold_size (a : Array Nat) : ∀ (l : List (Array Nat)) (acc : Array Nat), (∀ x ∈ l, x = a) → (l.foldl (· ++ ·) acc).size = acc.size + l.length * a.size
  | [], acc, _ => by simp
  | b :: l, acc, h => by
    rw [List.foldl_cons, fold_size a l _ (fun x hx => h x (List.mem_cons_of_mem _ hx)), h b List.mem_cons_self, Array.size_append, List.length_cons, Nat.add_mul]
    omega
theorem rep_size (a : Array Nat) (k : Nat) : (⟨(List.replicate k a).foldl (· ++ ·) #[]⟩ : Str).length = a.size * k := by
  show ((List.replicate k a).foldl (· ++ ·) #[]).size = _
  rw [fold_size a _ _ (fun x hx => List.eq_of_mem_replicate hx), List.length_replicate, Nat.mul_comm]
  simp
/-- a text k times, 2 at least -/
def rMulS : R2 := fun x y H Q => ∃ (z : Str) (k : Int), x = .str z ∧ y = .int k ∧ 2 ≤ k ∧ k ≤ 1000 ∧ 1 ≤ z.length ∧ z.length ≤ 1000 ∧ Q (.str ⟨(List.replicate k.toNat z.cps).foldl (· ++ ·) #[]⟩) H
theorem op_mulS : OpR X (binaryOp .Mult) rMulS := by
  intro pins s σ H x y v u Q I rx ry h
  obtain ⟨z, k, rfl, rfl, h1, h2, h3, h4, q⟩ := h
  obtain ⟨t, rfl⟩ := rx
  obtain ⟨t2, rfl⟩ := ry
  have e1 : (k == 1 || z.length == 0) = false := by
    rw [beq_eq_false_iff_ne.mpr (show k ≠ 1 by omega), beq_eq_false_iff_ne.mpr (show z.length ≠ 0 by omega)]
    rfl
  have hk : z.length * k.toNat ≤ 1000 * 1000 := Nat.mul_le_mul h4 (by omega)
  have hb : (2 : Int) ^ 63 - 1 ≥ 1000 * k := by omega
  refine P.mul_str (by rw [decide_eq_false (by omega), decide_eq_false (by omega)]; rfl) (fun _ _ => ?_) (fun _ _ => ?_) ?_
  · have : (1000 : Int) ≤ (2 ^ 63 - 1) / k := Int.le_ediv_of_mul_le (by omega) (by omega)
    omega
  · unfold Builtin.Str.tooLong
    rw [sizeLine_eq]
    exact decide_eq_false (by omega)
  · rw [if_neg (by omega), e1, if_neg (by decide)]
    exact ⟨by rw [rep_size, sizeLine_eq]; exact Nat.le_trans hk (by decide), ⟨.str _, H, I.tok _, ⟨_, rfl⟩, q⟩⟩
/-- once: the tuple itself -/
theorem tuple_mul1 (l : Addr) (items : Array Value) (n : Nat) (dd : Option Addr) (sl : Array (Option Value)) (u : Tok) :
    Meets (Builtin.«tuple.__mul__» ⟨[.ref l, .int 1 u], []⟩) (fun _ R s => s.heap.get? l = some { cls := .type "tuple", dict := dd, data := .seq items n, slots := sl } ∧
      R (.ok (.ret (Value.ref l))) s) :=
  .of_wp fun prog w A R s h => by
    obtain ⟨hp, g, d, tk, os⟩ := s
    obtain ⟨hl, h⟩ := h
    have f1 := AutoSeq1.idx_int
    wp_walk using wpAny_loadPart' hl
    exact ⟨_, rfl, h⟩
/-- a tuple k times, once or more -/
def rRepU (K : PySem.W.Frag) : R2 := fun x y H Q => ∃ l k xs, x = .ref l ∧ y = .int k ∧ SqT K H l xs ∧ xs ≠ [] ∧ 1 ≤ k ∧ k ≤ 1000 ∧ xs.length ≤ 1000 ∧ (∀ p, H p = none → Q (.ref p) (upd H p (.tup (List.replicate k.toNat xs).flatten))) ∧ (k = 1 → Q (.ref l) H)
theorem op_repU : OpR X (binaryOp .Mult) (rRepU X.K) := by
  intro pins s σ H x y v u Q I rx ry h
  obtain ⟨l, k, xs, rfl, rfl, hT, hne, h1, h2, hz, q, q1⟩ := h
  by_cases hk : k = 1
  · subst hk
    cases rx
    obtain ⟨t, rfl⟩ := ry
    obtain ⟨its, r, ⟨⟨cls, dd, data, sl⟩, ho, hc, n, hd⟩, hs⟩ := I.tuple hT
    simp only at hc hd
    subst hc hd
    exact wpAny_binaryOp_repeat_ref (T := "tuple") (U := "int") (by decide) ⟨_, ho, rfl⟩ (fun s' => typeIs_int s' 1 t) noFill_tuple_mul F.fills_int_mul F.slot_int_rmul repeat_tuple F.slot_int_index.lookup
      (call_meets F.slot_int_rmul (typeIs_int s 1 t) F.entry_int_rmul (F.args_int_rmul_2 _ _) (int_rmul_tuple 1 t l its.toArray n dd sl)
        ⟨ho, rfl, ⟨_, ho, rfl⟩, call_meets F.slot_tuple_mul ⟨_, ho, rfl⟩ F.entry_tuple_mul (F.args_tuple_mul_2 _ _) (tuple_mul1 l its.toArray n dd sl t) ⟨ho, ⟨.ref l, H, I, rfl, q1 rfl⟩⟩⟩)
  · exact op_repT pins s σ H _ _ v u Q I rx ry ⟨l, k, xs, rfl, rfl, hT, hne, by omega, h2, hz, q⟩
end
end L2

set_option maxRecDepth 100000
set_option maxHeartbeats 2000000
namespace Tx
open PySem PySem.Spec PyProof.Rows L2
abbrev prog : Program := PySem.Challenge.pw_meetandmake_k85_whole_texts_with_faults
def top (i : Nat) : Stmt := prog.main.body.getD i (.Pass ⟨0, 0, 0, 0⟩)
/-- a def of the text -/
structure Df (K : PySem.W.Frag) (mg : Str → Option Value) (x : Str) (st : Stmt) (ps : List Str) where
  f : Addr
  fd : FuncData
  F : Fun K x x st f fd
  m : mg x = some (.ref f)
  b : Binds K fd ps []
/-- an own error without __init__ over ValueError -/
structure Xo (K : PySem.W.Frag) (mg : Str → Option Value) (nm : Str) where
  C : Addr
  x : PySem.W.excIn K C [.type "ValueError", .type "Exception", .type "BaseException", .type "object"] "ValueError.__new__" = true
  g : mg nm = some (.ref C)
  k : PySem.W.keepIn K (.ref C) = true
  b : PySem.W.subIn K (.ref C) (.type "BaseException") = some true
  t : PySem.W.typeIn K (.ref C) = some (.type "type")
structure Gi (mg : Str → Option Value) (x : Str) (i : Int) : Prop where
  g : ∃ t, mg x = some (.int i t)
structure Pg (K : PySem.W.Frag) (mg : Str → Option Value) where
  is_plain : Df K mg "is_plain" (top 9) ["value"]
  is_integer : Df K mg "is_integer" (top 10) ["value"]
  is_within : Df K mg "is_within" (top 11) ["value", "low", "high"]
  require_within : Df K mg "require_within" (top 12) ["value", "low", "high"]
  are_integers : Df K mg "are_integers" (top 21) ["value"]
  require_sign : Df K mg "require_sign" (top 22) ["text", "index", "sign"]
  require_text : Df K mg "require_text" (top 23) ["value"]
  plain_at : Df K mg "plain_at" (top 24) ["text", "index"]
  signed_at : Df K mg "signed_at" (top 25) ["text", "index"]
  cycle_at : Df K mg "cycle_at" (top 26) ["text", "index"]
  cycles_at : Df K mg "cycles_at" (top 27) ["text", "index"]
  require_end : Df K mg "require_end" (top 28) ["text", "index"]
  move_told : Df K mg "move_told" (top 29) ["places", "cycles"]
  read_move : Df K mg "read_move" (top 30) ["text", "places"]
  read_row : Df K mg "read_row" (top 31) ["text"]
  term_at : Df K mg "term_at" (top 32) ["text", "index"]
  terms_at : Df K mg "terms_at" (top 33) ["text"]
  read_kinds : Df K mg "read_kinds" (top 34) ["text", "length"]
  _law_bag : Df K mg "_law_bag" (top 36) ["script", "spot"]
  _law_grab : Df K mg "_law_grab" (top 37) ["bag", "total"]
  _law_one_of : Df K mg "_law_one_of" (top 38) ["bag", "items"]
  _law_cycles : Df K mg "_law_cycles" (top 39) ["move"]
  _law_move_drawn : Df K mg "_law_move_drawn" (top 40) ["bag", "places"]
  _law_figures : Df K mg "_law_figures" (top 41) ["text", "at"]
  _law_cycles_from : Df K mg "_law_cycles_from" (top 42) ["text", "at"]
  _law_move_of : Df K mg "_law_move_of" (top 43) ["places", "rings"]
  _law_move_text : Df K mg "_law_move_text" (top 44) ["move"]
  _law_move_read : Df K mg "_law_move_read" (top 45) ["text", "places"]
  _law_near_text : Df K mg "_law_near_text" (top 46) ["bag", "text", "signs"]
  _law_kinds_text : Df K mg "_law_kinds_text" (top 47) ["kinds"]
  _law_met : Df K mg "_law_met" (top 48) ["call"]
  _law_row_read : Df K mg "_law_row_read" (top 49) ["text"]
  _law_term_from : Df K mg "_law_term_from" (top 50) ["text", "here"]
  _law_kinds_read : Df K mg "_law_kinds_read" (top 51) ["text", "length"]
  _law_number : Df K mg "_law_number" (top 53) ["bag"]
  b_isinstance : mg "isinstance" = none
  b_int : mg "int" = none
  b_bool : mg "bool" = none
  b_str : mg "str" = none
  b_tuple : mg "tuple" = none
  b_list : mg "list" = none
  b_len : mg "len" = none
  b_min : mg "min" = none
  b_max : mg "max" = none
  b_range : mg "range" = none
  b_enumerate : mg "enumerate" = none
  b_any : mg "any" = none
  b_all : mg "all" = none
  b_sum : mg "sum" = none
  b_abs : mg "abs" = none
  t_MOST_SIGNS : Tok
  g_MOST_SIGNS : mg "MOST_SIGNS" = some (.int 3000 t_MOST_SIGNS)
  t_MOST_MEMBERS : Tok
  g_MOST_MEMBERS : mg "MOST_MEMBERS" = some (.int 60 t_MOST_MEMBERS)
  t_MOST_PLACES : Tok
  g_MOST_PLACES : mg "MOST_PLACES" = some (.int 24 t_MOST_PLACES)
  t_MOST_FIGURES : Tok
  g_MOST_FIGURES : mg "MOST_FIGURES" = some (.int 60 t_MOST_FIGURES)
  t_FIGURES : Tok
  g_FIGURES : mg "FIGURES" = some (.str "0123456789" t_FIGURES)
  t_NOTHING : Tok
  g_NOTHING : mg "NOTHING" = some (.str "0" t_NOTHING)
  t_UNIT : Tok
  g_UNIT : mg "UNIT" = some (.str "()" t_UNIT)
  t_FAR : Tok
  g_FAR : mg "FAR" = some (.int (10 ^ 60) t_FAR)
  x_InvalidMove : Xo K mg "InvalidMove"
  x_InvalidRow : Xo K mg "InvalidRow"
  x_InvalidKinds : Xo K mg "InvalidKinds"
  c_ParseError : Addr
  i_ParseError : Addr
  e_ParseError : PySem.ErrX.ErrTxt prog K mg "ParseError" "ParseError.__init__" "index" c_ParseError i_ParseError
theorem sc_is_plain : FnScope ["value"] ["value"] (defScope (top 9)) := ⟨rfl, rfl, rfl, by decide +kernel, rfl, by decide +kernel, by decide +kernel⟩
theorem sc_is_integer : FnScope ["value"] ["value"] (defScope (top 10)) := ⟨rfl, rfl, rfl, by decide +kernel, rfl, by decide +kernel, by decide +kernel⟩
theorem sc_is_within : FnScope ["value", "low", "high"] ["value", "low", "high"] (defScope (top 11)) := ⟨rfl, rfl, rfl, by decide +kernel, rfl, by decide +kernel, by decide +kernel⟩
theorem sc_require_within : FnScope ["value", "low", "high"] ["value", "low", "high"] (defScope (top 12)) := ⟨rfl, rfl, rfl, by decide +kernel, rfl, by decide +kernel, by decide +kernel⟩
theorem sc_are_integers : FnScope ["value", "one"] ["value"] (defScope (top 21)) := ⟨rfl, rfl, rfl, by decide +kernel, rfl, by decide +kernel, by decide +kernel⟩
theorem sc_require_sign : FnScope ["text", "index", "sign"] ["text", "index", "sign"] (defScope (top 22)) := ⟨rfl, rfl, rfl, by decide +kernel, rfl, by decide +kernel, by decide +kernel⟩
theorem sc_require_text : FnScope ["value"] ["value"] (defScope (top 23)) := ⟨rfl, rfl, rfl, by decide +kernel, rfl, by decide +kernel, by decide +kernel⟩
theorem sc_plain_at : FnScope ["text", "index", "end", "most"] ["text", "index"] (defScope (top 24)) := ⟨rfl, rfl, rfl, by decide +kernel, rfl, by decide +kernel, by decide +kernel⟩
theorem sc_signed_at : FnScope ["text", "index", "number", "end"] ["text", "index"] (defScope (top 25)) := ⟨rfl, rfl, rfl, by decide +kernel, rfl, by decide +kernel, by decide +kernel⟩
theorem sc_cycle_at : FnScope ["text", "index", "place", "found"] ["text", "index"] (defScope (top 26)) := ⟨rfl, rfl, rfl, by decide +kernel, rfl, by decide +kernel, by decide +kernel⟩
theorem sc_cycles_at : FnScope ["text", "index", "cycle", "found"] ["text", "index"] (defScope (top 27)) := ⟨rfl, rfl, rfl, by decide +kernel, rfl, by decide +kernel, by decide +kernel⟩
theorem sc_require_end : FnScope ["text", "index"] ["text", "index"] (defScope (top 28)) := ⟨rfl, rfl, rfl, by decide +kernel, rfl, by decide +kernel, by decide +kernel⟩
theorem sc_move_told : FnScope ["places", "cycles", "told", "found", "cycle", "at", "place"] ["places", "cycles"] (defScope (top 29)) := ⟨rfl, rfl, rfl, by decide +kernel, rfl, by decide +kernel, by decide +kernel⟩
theorem sc_read_move : FnScope ["text", "places", "cycles", "index"] ["text", "places"] (defScope (top 30)) := ⟨rfl, rfl, rfl, by decide +kernel, rfl, by decide +kernel, by decide +kernel⟩
theorem sc_read_row : FnScope ["text", "number", "index", "found"] ["text"] (defScope (top 31)) := ⟨rfl, rfl, rfl, by decide +kernel, rfl, by decide +kernel, by decide +kernel⟩
theorem sc_term_at : FnScope ["text", "index", "number", "place"] ["text", "index"] (defScope (top 32)) := ⟨rfl, rfl, rfl, by decide +kernel, rfl, by decide +kernel, by decide +kernel⟩
theorem sc_terms_at : FnScope ["text", "sign", "index", "number", "place", "found"] ["text"] (defScope (top 33)) := ⟨rfl, rfl, rfl, by decide +kernel, rfl, by decide +kernel, by decide +kernel⟩
theorem sc_read_kinds : FnScope ["text", "length", "terms", "found", "number", "place"] ["text", "length"] (defScope (top 34)) := ⟨rfl, rfl, rfl, by decide +kernel, rfl, by decide +kernel, by decide +kernel⟩
theorem sc__law_bag : FnScope ["script", "spot", "cell", "great", "mixed"] ["script", "spot"] (defScope (top 36)) := ⟨rfl, rfl, rfl, by decide +kernel, rfl, by decide +kernel, by decide +kernel⟩
theorem sc__law_grab : FnScope ["bag", "total", "found", "one", "two"] ["bag", "total"] (defScope (top 37)) := ⟨rfl, rfl, rfl, by decide +kernel, rfl, by decide +kernel, by decide +kernel⟩
theorem sc__law_one_of : FnScope ["bag", "items"] ["bag", "items"] (defScope (top 38)) := ⟨rfl, rfl, rfl, by decide +kernel, rfl, by decide +kernel, by decide +kernel⟩
theorem sc__law_cycles : FnScope ["move", "found", "known", "start", "ring", "place"] ["move"] (defScope (top 39)) := ⟨rfl, rfl, rfl, by decide +kernel, rfl, by decide +kernel, by decide +kernel⟩
theorem sc__law_move_drawn : FnScope ["bag", "places", "left", "found", "turn"] ["bag", "places"] (defScope (top 40)) := ⟨rfl, rfl, rfl, by decide +kernel, rfl, by decide +kernel, by decide +kernel⟩
theorem sc__law_figures : FnScope ["text", "at", "found"] ["text", "at"] (defScope (top 41)) := ⟨rfl, rfl, rfl, by decide +kernel, rfl, by decide +kernel, by decide +kernel⟩
theorem sc__law_cycles_from : FnScope ["text", "at", "found", "here", "cycle", "is_open", "size"] ["text", "at"] (defScope (top 42)) := ⟨rfl, rfl, rfl, by decide +kernel, rfl, by decide +kernel, by decide +kernel⟩
theorem sc__law_move_of : FnScope ["places", "rings", "found", "known", "ring", "at", "place"] ["places", "rings"] (defScope (top 43)) := ⟨rfl, rfl, rfl, by decide +kernel, rfl, by decide +kernel, by decide +kernel⟩
theorem sc__law_move_text : FnScope ["move", "rings", "ring", "place"] ["move"] (defScope (top 44)) := ⟨rfl, rfl, rfl, by decide +kernel, rfl, by decide +kernel, by decide +kernel⟩
theorem sc__law_move_read : FnScope ["text", "places", "wrong", "rings", "here", "found"] ["text", "places"] (defScope (top 45)) := ⟨rfl, rfl, rfl, by decide +kernel, rfl, by decide +kernel, by decide +kernel⟩
theorem sc__law_near_text : FnScope ["bag", "text", "signs", "way", "at", "sign"] ["bag", "text", "signs"] (defScope (top 46)) := ⟨rfl, rfl, rfl, by decide +kernel, rfl, by decide +kernel, by decide +kernel⟩
theorem sc__law_kinds_text : FnScope ["kinds", "found", "index", "number", "size", "lead"] ["kinds"] (defScope (top 47)) := ⟨rfl, rfl, rfl, by decide +kernel, rfl, by decide +kernel, by decide +kernel⟩
theorem sc__law_met : FnScope ["call", "error"] ["call"] (defScope (top 48)) := ⟨rfl, rfl, rfl, by decide +kernel, rfl, by decide +kernel, by decide +kernel⟩
theorem sc__law_row_read : FnScope ["text", "found", "here", "is_open", "sign", "size"] ["text"] (defScope (top 49)) := ⟨rfl, rfl, rfl, by decide +kernel, rfl, by decide +kernel, by decide +kernel⟩
theorem sc__law_term_from : FnScope ["text", "here", "number", "size", "behind"] ["text", "here"] (defScope (top 50)) := ⟨rfl, rfl, rfl, by decide +kernel, rfl, by decide +kernel, by decide +kernel⟩
theorem sc__law_kinds_read : FnScope ["text", "length", "sign", "here", "terms", "is_open", "wrong", "number", "index", "behind", "found"] ["text", "length"] (defScope (top 51)) := ⟨rfl, rfl, rfl, by decide +kernel, rfl, by decide +kernel, by decide +kernel⟩
theorem sc__law_moves_right : FnScope ["bag", "places", "text", "turn"] ["bag"] (defScope (top 52)) := ⟨rfl, rfl, rfl, by decide +kernel, rfl, by decide +kernel, by decide +kernel⟩
theorem sc__law_number : FnScope ["bag"] ["bag"] (defScope (top 53)) := ⟨rfl, rfl, rfl, by decide +kernel, rfl, by decide +kernel, by decide +kernel⟩
theorem sc__law_rows_right : FnScope ["bag", "many", "text", "turn"] ["bag"] (defScope (top 54)) := ⟨rfl, rfl, rfl, by decide +kernel, rfl, by decide +kernel, by decide +kernel⟩
theorem sc__law_kinds_right : FnScope ["bag", "length", "text", "turn"] ["bag"] (defScope (top 55)) := ⟨rfl, rfl, rfl, by decide +kernel, rfl, by decide +kernel, by decide +kernel⟩
theorem sc_law : FnScope ["script", "spot", "bag", "turn", "told", "due"] ["script"] (defScope (top 56)) := ⟨rfl, rfl, rfl, by decide +kernel, rfl, by decide +kernel, by decide +kernel⟩
end Tx

set_option maxHeartbeats 2000000
/-! What texts of moves, rows and kinds tell: plain functions over code points. -/
namespace Tx
def lead : Nat → List Nat → Nat
  | 0, _ => 0
  | _ + 1, [] => 0
  | n + 1, c :: r => if 48 ≤ c ∧ c ≤ 57 then lead n r + 1 else 0
def mx (l : List Nat) (i : Nat) : Nat := if l[i]? = some 48 then 1 else 60
/-- how many figures the plain integer at i has -/
def figs (l : List Nat) (i : Nat) : Nat := lead (mx l i) (l.drop i)
def num (l : List Nat) (i : Nat) : Int := ((PySem.NumText.digitsVal ((l.drop i).take (figs l i)) : Nat) : Int)
theorem lead_le : ∀ (n : Nat) (l : List Nat), lead n l ≤ n
  | 0, _ => Nat.le_refl 0
  | _ + 1, [] => Nat.zero_le _
  | n + 1, c :: r => by
    unfold lead
    have := lead_le n r
    split <;> omega
theorem lead_len : ∀ (n : Nat) (l : List Nat), lead n l ≤ l.length
  | 0, _ => Nat.zero_le _
  | _ + 1, [] => Nat.zero_le _
  | n + 1, c :: r => by
    unfold lead
    have := lead_len n r
    simp only [List.length_cons]
    split <;> omega
theorem lead_dig : ∀ (n : Nat) (l : List Nat), PySem.NumText.AllDigits (l.take (lead n l))
  | 0, l => by intro c hc; simp [lead] at hc
  | _ + 1, [] => by intro c hc; simp [lead] at hc
  | n + 1, c :: r => by
    unfold lead
    split
    · rename_i h
      intro d hd
      rw [List.take_succ_cons] at hd
      rcases List.mem_cons.mp hd with rfl | hd
      · exact h
      · exact lead_dig n r d hd
    · intro d hd
      simp at hd
theorem lead_next : ∀ {n : Nat} {l : List Nat} {j c : Nat}, j ≤ lead n l → j < n → l[j]? = some c → 48 ≤ c ∧ c ≤ 57 → j + 1 ≤ lead n l
  | 0, _, _, _, _, h, _, _ => by omega
  | _ + 1, [], _, _, _, _, h, _ => by simp at h
  | n + 1, a :: r, 0, c, _, _, h, hc => by
    have e : a = c := by simpa using h
    subst e
    unfold lead
    rw [if_pos hc]
    omega
  | n + 1, a :: r, j + 1, c, hj, hn, h, hc => by
    unfold lead at hj ⊢
    split
    · rename_i ha
      rw [if_pos ha] at hj
      have := lead_next (n := n) (l := r) (j := j) (c := c) (by omega) (by omega) (by simpa using h) hc
      omega
    · rename_i ha
      rw [if_neg ha] at hj
      omega
theorem lead_end : ∀ {n : Nat} {l : List Nat} {j c : Nat}, j ≤ lead n l → l[j]? = some c → ¬ (48 ≤ c ∧ c ≤ 57) → lead n l = j
  | 0, _, j, _, hj, _, _ => by unfold lead at hj ⊢; omega
  | _ + 1, [], _, _, _, h, _ => by simp at h
  | n + 1, a :: r, 0, c, _, h, hc => by
    have e : a = c := by simpa using h
    subst e
    unfold lead
    rw [if_neg hc]
  | n + 1, a :: r, j + 1, c, hj, h, hc => by
    unfold lead at hj ⊢
    split
    · rename_i ha
      rw [if_pos ha] at hj
      have := lead_end (n := n) (l := r) (j := j) (c := c) (by omega) (by simpa using h) hc
      omega
    · rename_i ha
      rw [if_neg ha] at hj
      omega
theorem figs_len (l : List Nat) (i : Nat) : figs l i ≤ l.length - i := by
  have := lead_len (mx l i) (l.drop i)
  rw [List.length_drop] at this
  exact this
theorem figs_mx (l : List Nat) (i : Nat) : figs l i ≤ mx l i := lead_le _ _
theorem mx_le (l : List Nat) (i : Nat) : mx l i ≤ 60 := by unfold mx; split <;> omega
theorem figs_60 (l : List Nat) (i : Nat) : figs l i ≤ 60 := Nat.le_trans (figs_mx l i) (mx_le l i)
theorem figs_in {l : List Nat} {i : Nat} (h : figs l i ≠ 0) : i < l.length := by
  have := figs_len l i
  omega
theorem figs_le {l : List Nat} {i : Nat} (h : figs l i ≠ 0) : i + figs l i ≤ l.length := by
  have := figs_len l i
  have := figs_in h
  omega
theorem num_nonneg (l : List Nat) (i : Nat) : 0 ≤ num l i := Int.natCast_nonneg _
theorem figs_no {l : List Nat} {i c : Nat} (h : l[i]? = some c) (hc : ¬ (48 ≤ c ∧ c ≤ 57)) : figs l i = 0 :=
  lead_end (Nat.zero_le _) (by rw [List.getElem?_drop]; exact h) hc
theorem figs_none {l : List Nat} {i : Nat} (h : l.length ≤ i) : figs l i = 0 := by
  have := figs_len l i
  omega
/-- what int() reads -/
theorem num_read (l : List Nat) (i k : Nat) (hk : k = figs l i) (h : figs l i ≠ 0) : PySem.intText? ⟨((l.drop i).take k).toArray⟩ = some (num l i) := by
  subst hk
  have hl := figs_le h
  refine PySem.intText_digits (x := ⟨((l.drop i).take (figs l i)).toArray⟩) ?_ ?_ ?_
  · exact lead_dig (mx l i) (l.drop i)
  · intro e
    have e' : (l.drop i).take (figs l i) = [] := by simpa using e
    have := congrArg List.length e'
    rw [List.length_take, List.length_drop] at this
    simp only [List.length_nil] at this
    omega
  · have := figs_60 l i
    show (((l.drop i).take (figs l i)).toArray).size ≤ 4300
    simp only [List.size_toArray, List.length_take]
    omega
/-! ### cycles -/
def cyc (l : List Nat) (i : Nat) (acc : List Int) : Except Nat (List Int × Nat) :=
  if figs l i = 0 then .error i
  else if l[i + figs l i]? = some 41 ∧ 1 ≤ acc.length then .ok (acc ++ [num l i], i + figs l i + 1)
  else if l[i + figs l i]? = some 32 then cyc l (i + figs l i + 1) (acc ++ [num l i])
  else .error (i + figs l i)
termination_by l.length - i
decreasing_by
  have := figs_len l i
  omega
/-- behind a place of a cycle -/
def aft (l : List Nat) (j : Nat) (acc : List Int) : Except Nat (List Int × Nat) :=
  if l[j]? = some 41 ∧ 2 ≤ acc.length then .ok (acc, j + 1) else if l[j]? = some 32 then cyc l (j + 1) acc else .error j
theorem cyc_eq (l : List Nat) (i : Nat) (acc : List Int) : cyc l i acc = if figs l i = 0 then .error i else aft l (i + figs l i) (acc ++ [num l i]) := by
  rw [cyc]
  unfold aft
  have e : (2 ≤ (acc ++ [num l i]).length) = (1 ≤ acc.length) := by
    apply propext
    rw [List.length_append]
    simp only [List.length_cons, List.length_nil]
    omega
  simp only [e]
theorem cyc_zero {l : List Nat} {i : Nat} {acc : List Int} (h : figs l i = 0) : cyc l i acc = .error i := by rw [cyc_eq, if_pos h]
theorem cyc_pos {l : List Nat} {i : Nat} {acc : List Int} (h : figs l i ≠ 0) : cyc l i acc = aft l (i + figs l i) (acc ++ [num l i]) := by rw [cyc_eq, if_neg h]
theorem cyc_ok (l : List Nat) (i : Nat) (acc : List Int) : ∀ c j, cyc l i acc = .ok (c, j) → i < j ∧ j ≤ l.length ∧ 2 ≤ c.length ∧ ((∀ x ∈ acc, 0 ≤ x) → ∀ x ∈ c, 0 ≤ x) := by
  intro c j h
  fun_induction cyc l i acc with
  | case1 i acc h0 => cases h
  | case2 i acc h0 h1 =>
    cases h
    have hp : l[i + figs l i]? ≠ none := by rw [h1.1]; simp
    have hlt : i + figs l i < l.length := by
      rcases Nat.lt_or_ge (i + figs l i) l.length with z | z
      · exact z
      · exact absurd (List.getElem?_eq_none z) hp
    refine ⟨by omega, by omega, ?_, fun ha x hx => ?_⟩
    · rw [List.length_append]
      simp only [List.length_cons, List.length_nil]
      omega
    · rcases List.mem_append.mp hx with hx | hx
      · exact ha x hx
      · rw [List.mem_singleton.mp hx]
        exact num_nonneg l i
  | case3 i acc h0 h1 h2 ih =>
    obtain ⟨a, b, d, e⟩ := ih h
    refine ⟨by omega, b, d, fun ha => e fun x hx => ?_⟩
    rcases List.mem_append.mp hx with hx | hx
    · exact ha x hx
    · rw [List.mem_singleton.mp hx]
      exact num_nonneg l i
  | case4 i acc h0 h1 h2 => cases h
/-- one cycle with its bracket -/
def cyc1 (l : List Nat) (i : Nat) : Except Nat (List Int × Nat) := if l[i]? = some 40 then cyc l (i + 1) [] else .error i
theorem cyc1_ok {l : List Nat} {i j : Nat} {c : List Int} (h : cyc1 l i = .ok (c, j)) : i < l.length ∧ i < j ∧ j ≤ l.length ∧ 2 ≤ c.length ∧ ∀ x ∈ c, 0 ≤ x := by
  unfold cyc1 at h
  split at h
  · rename_i h0
    obtain ⟨a, b, d, e⟩ := cyc_ok _ _ _ _ _ h
    exact ⟨by omega, by omega, b, d, e (fun x hx => by cases hx)⟩
  · cases h
def cycs (l : List Nat) (i : Nat) (acc : List (List Int)) : Except Nat (List (List Int) × Nat) :=
  match h : cyc1 l i with
  | .error e => .error e
  | .ok (c, j) => if l[j]? = some 40 then cycs l j (acc ++ [c]) else .ok (acc ++ [c], j)
termination_by l.length - i
decreasing_by
  have := cyc1_ok h
  omega
theorem cycs_err {l : List Nat} {i e : Nat} {acc : List (List Int)} (h : cyc1 l i = .error e) : cycs l i acc = .error e := by
  rw [cycs]
  split
  · rename_i e' h'
    rw [h] at h'
    cases h'
    rfl
  · rename_i c j h'
    rw [h] at h'
    cases h'
theorem cycs_go {l : List Nat} {i j : Nat} {c : List Int} {acc : List (List Int)} (h : cyc1 l i = .ok (c, j)) : cycs l i acc = if l[j]? = some 40 then cycs l j (acc ++ [c]) else .ok (acc ++ [c], j) := by
  rw [cycs]
  split
  · rename_i e' h'
    rw [h] at h'
    cases h'
  · rename_i c' j' h'
    rw [h] at h'
    cases h'
    rfl
def Rings (cs : List (List Int)) : Prop := ∀ c ∈ cs, 2 ≤ c.length ∧ ∀ x ∈ c, 0 ≤ x
theorem cycs_ok (l : List Nat) (i : Nat) (acc : List (List Int)) : ∀ cs j, Rings acc → cycs l i acc = .ok (cs, j) → i < j ∧ j ≤ l.length ∧ Rings cs := by
  intro cs j ha h
  fun_induction cycs l i acc with
  | case1 i acc e he => cases h
  | case2 i acc c k hk h0 ih =>
    obtain ⟨x, a, b, d, e⟩ := cyc1_ok hk
    obtain ⟨p, q, r⟩ := ih (fun y hy => by
      rcases List.mem_append.mp hy with hy | hy
      · exact ha y hy
      · rw [List.mem_singleton.mp hy]
        exact ⟨d, e⟩) h
    exact ⟨by omega, q, r⟩
  | case3 i acc c k hk h0 =>
    cases h
    obtain ⟨x, a, b, d, e⟩ := cyc1_ok hk
    refine ⟨a, b, fun y hy => ?_⟩
    rcases List.mem_append.mp hy with hy | hy
    · exact ha y hy
    · rw [List.mem_singleton.mp hy]
      exact ⟨d, e⟩
/-- the cycles at an index: () or some cycles -/
def cycsAt (l : List Nat) (i : Nat) : Except Nat (List (List Int) × Nat) := if l[i]? = some 40 ∧ l[i + 1]? = some 41 then .ok ([], i + 2) else cycs l i []
theorem cycsAt_ok {l : List Nat} {i j : Nat} {cs : List (List Int)} (h : cycsAt l i = .ok (cs, j)) : i < j ∧ j ≤ l.length ∧ Rings cs := by
  unfold cycsAt at h
  split at h
  · rename_i h0
    cases h
    refine ⟨by omega, ?_, fun c hc => by cases hc⟩
    have hp : l[i + 1]? ≠ none := by rw [h0.2]; simp
    rcases Nat.lt_or_ge (i + 1) l.length with z | z
    · omega
    · exact absurd (List.getElem?_eq_none z) hp
  · exact cycs_ok l i [] cs j (fun c hc => by cases hc) h
/-- the whole text as a move's cycles -/
def ringsOf (l : List Nat) : Except Nat (List (List Int)) := match cycsAt l 0 with
  | .error e => .error e
  | .ok (cs, j) => if j < l.length then .error j else .ok cs
/-! ### rows -/
def sgn (l : List Nat) (i : Nat) : Except Nat (Int × Nat) :=
  if l[i]? = some 45 then (if l[i + 1]? = some 48 ∨ figs l (i + 1) = 0 then .error (i + 1) else .ok (-num l (i + 1), i + 1 + figs l (i + 1)))
  else if figs l i = 0 then .error i else .ok (num l i, i + figs l i)
theorem sgn_ok {l : List Nat} {i j : Nat} {x : Int} (h : sgn l i = .ok (x, j)) : i < j ∧ j ≤ l.length := by
  unfold sgn at h
  split at h
  · split at h
    · cases h
    · rename_i h0
      cases h
      have := figs_le (l := l) (i := i + 1) (fun z => h0 (.inr z))
      omega
  · split at h
    · cases h
    · rename_i h0
      cases h
      have := figs_le (l := l) (i := i) h0
      omega
def row (l : List Nat) (i : Nat) (acc : List Int) : Except Nat (List Int) :=
  match h : sgn l i with
  | .error e => .error e
  | .ok (x, j) => if hj : l[j]? = some 44 then row l (j + 1) (acc ++ [x]) else if j < l.length then .error j else .ok (acc ++ [x])
termination_by l.length + 1 - i
decreasing_by
  have := sgn_ok h
  omega
theorem row_err {l : List Nat} {i e : Nat} {acc : List Int} (h : sgn l i = .error e) : row l i acc = .error e := by
  rw [row]
  split
  · rename_i e' h'
    rw [h] at h'
    cases h'
    rfl
  · rename_i c j h'
    rw [h] at h'
    cases h'
theorem row_go {l : List Nat} {i j : Nat} {x : Int} {acc : List Int} (h : sgn l i = .ok (x, j)) : row l i acc = if l[j]? = some 44 then row l (j + 1) (acc ++ [x]) else if j < l.length then .error j else .ok (acc ++ [x]) := by
  rw [row]
  split
  · rename_i e' h'
    rw [h] at h'
    cases h'
  · rename_i c' j' h'
    rw [h] at h'
    cases h'
    rfl
/-! ### kinds -/
def trm2 (l : List Nat) (x : Int) (j : Nat) : Except Nat (Int × Int × Nat) :=
  if l[j]? = some 91 then (if figs l (j + 1) = 0 then .error (j + 1) else if l[j + 1 + figs l (j + 1)]? = some 93 then .ok (x, num l (j + 1), j + 1 + figs l (j + 1) + 1) else .error (j + 1 + figs l (j + 1)))
  else .error j
def trm (l : List Nat) (i : Nat) : Except Nat (Int × Int × Nat) :=
  if l[i]? = some 91 then trm2 l 1 i else if figs l i = 0 then .error i else trm2 l (num l i) (i + figs l i)
theorem trm2_ok {l : List Nat} {j k : Nat} {x y p : Int} (h : trm2 l x j = .ok (y, p, k)) : j < k ∧ k ≤ l.length ∧ 0 ≤ p ∧ y = x := by
  unfold trm2 at h
  split at h
  · split at h
    · cases h
    · split at h
      · rename_i h0 h1
        cases h
        have hp : l[j + 1 + figs l (j + 1)]? ≠ none := by rw [h1]; simp
        refine ⟨by omega, ?_, num_nonneg _ _, rfl⟩
        rcases Nat.lt_or_ge (j + 1 + figs l (j + 1)) l.length with z | z
        · omega
        · exact absurd (List.getElem?_eq_none z) hp
      · cases h
  · cases h
theorem trm_ok {l : List Nat} {i k : Nat} {y p : Int} (h : trm l i = .ok (y, p, k)) : i < k ∧ k ≤ l.length ∧ 0 ≤ p := by
  unfold trm at h
  split at h
  · obtain ⟨a, b, c, _⟩ := trm2_ok h
    exact ⟨a, b, c⟩
  · split at h
    · cases h
    · obtain ⟨a, b, c, _⟩ := trm2_ok h
      exact ⟨by omega, b, c⟩
def trms (l : List Nat) (sg : Int) (i : Nat) (acc : List (Int × Int)) : Except Nat (List (Int × Int)) :=
  match h : trm l i with
  | .error e => .error e
  | .ok (x, p, j) =>
    if j < l.length then
      if l[j]? ≠ some 32 then .error j
      else if l[j + 1]? = some 43 ∨ l[j + 1]? = some 45 then (if l[j + 2]? = some 32 then trms l (if l[j + 1]? = some 43 then 1 else -1) (j + 3) (acc ++ [(sg * x, p)]) else .error (j + 2))
      else .error (j + 1)
    else .ok (acc ++ [(sg * x, p)])
termination_by l.length + 1 - i
decreasing_by
  have := trm_ok h
  omega
/-- behind a term -/
def aftT (l : List Nat) (j : Nat) (acc : List (Int × Int)) : Except Nat (List (Int × Int)) :=
  if j < l.length then
    if l[j]? ≠ some 32 then .error j
    else if l[j + 1]? = some 43 ∨ l[j + 1]? = some 45 then (if l[j + 2]? = some 32 then trms l (if l[j + 1]? = some 43 then 1 else -1) (j + 3) acc else .error (j + 2))
    else .error (j + 1)
  else .ok acc
theorem trms_err {l : List Nat} {i e : Nat} {sg : Int} {acc : List (Int × Int)} (h : trm l i = .error e) : trms l sg i acc = .error e := by
  rw [trms]
  split
  · rename_i e' h'
    rw [h] at h'
    cases h'
    rfl
  · rename_i c j h'
    rw [h] at h'
    cases h'
theorem trms_go {l : List Nat} {i j : Nat} {sg x p : Int} {acc : List (Int × Int)} (h : trm l i = .ok (x, p, j)) : trms l sg i acc = aftT l j (acc ++ [(sg * x, p)]) := by
  rw [trms]
  split
  · rename_i e' h'
    rw [h] at h'
    cases h'
  · rename_i c' j' k' h'
    rw [h] at h'
    cases h'
    rfl
def TermsOk (ts : List (Int × Int)) : Prop := ∀ t ∈ ts, 0 ≤ t.2
theorem trms_ok (l : List Nat) (sg : Int) (i : Nat) (acc : List (Int × Int)) : ∀ ts, TermsOk acc → trms l sg i acc = .ok ts → TermsOk ts := by
  intro ts ha h
  have more : ∀ {x p : Int} {j : Nat}, trm l i = .ok (x, p, j) → ∀ {acc : List (Int × Int)} {y : Int}, TermsOk acc → TermsOk (acc ++ [(y, p)]) := fun hk acc y ha t ht => by
    rcases List.mem_append.mp ht with ht | ht
    · exact ha t ht
    · rw [List.mem_singleton.mp ht]
      exact (trm_ok hk).2.2
  fun_induction trms l sg i acc with
  | case1 sg i acc e he => cases h
  | case2 sg i acc x p j hk h0 h1 => cases h
  | case3 sg i acc x p j hk h0 h1 h2 h3 ih =>
    refine ih (more hk ha) h fun hk' acc y ha t ht => ?_
    rcases List.mem_append.mp ht with ht | ht
    · exact ha t ht
    · rw [List.mem_singleton.mp ht]
      exact (trm_ok hk').2.2
  | case4 sg i acc x p j hk h0 h1 h2 h3 => cases h
  | case5 sg i acc x p j hk h0 h1 h2 => cases h
  | case6 sg i acc x p j hk h0 =>
    cases h
    exact more hk ha
/-- the terms of the whole text -/
def termsOf (l : List Nat) : Except Nat (List (Int × Int)) :=
  if l[0]? = some 45 then (if l[1]? = some 48 then .error 1 else trms l (-1) 1 []) else trms l 1 0 []
end Tx

set_option maxHeartbeats 2000000
/-! Plain facts: integers below 10**60, places told twice, the move of some rings. -/
namespace Tx
open L2
theorem snoc_ind {α : Type} {P : List α → Prop} (h0 : P []) (hs : ∀ l a, P l → P (l ++ [a])) (l : List α) : P l := by
  have h : ∀ n (l : List α), l.length = n → P l := by
    intro n
    induction n with
    | zero =>
      intro l hl
      rw [List.eq_nil_of_length_eq_zero hl]
      exact h0
    | succ n ih =>
      intro l hl
      have hne : l ≠ [] := by
        intro z
        subst z
        simp at hl
      rw [← List.dropLast_concat_getLast hne]
      exact hs _ _ (ih _ (by rw [List.length_dropLast, hl]; rfl))
  exact h _ l rfl
theorem putK_old {κ : Type} [DecidableEq κ] {kvs : List (κ × V)} {k : κ} {v x : V} (h : valV kvs k = some x) : (putK kvs k v).length = kvs.length := by
  unfold putK
  rw [valV_any, h]
  simp
def isI (n : Int) : Bool := decide (-(10 ^ 60) < n ∧ n < 10 ^ 60)
def intsB (ns : List Int) : Bool := decide (1 ≤ ns.length ∧ ns.length ≤ 60) && ns.all isI
/-- the dict of some integers -/
def dkOf (ns : List Int) : List (Key × V) := ns.foldl (fun d n => putK d (.inl n) (.bl true)) []
theorem dkOf_snoc (ns : List Int) (n : Int) : dkOf (ns ++ [n]) = putK (dkOf ns) (.inl n) (.bl true) := by
  unfold dkOf
  rw [List.foldl_append]
  rfl
theorem dkOf_val (ns : List Int) : ∀ n, valV (dkOf ns) (.inl n) = if n ∈ ns then some (.bl true) else none := by
  induction ns using snoc_ind with
  | h0 => intro n; rfl
  | hs ns a ih =>
    intro n
    rw [dkOf_snoc, valV_put, ih]
    by_cases h : n = a
    · subst h
      simp
    · rw [if_neg (by intro z; injection z with z; exact h z)]
      simp [h]
theorem dkOf_len (ns : List Int) : (dkOf ns).length ≤ ns.length ∧ ((dkOf ns).length = ns.length ↔ ns.Nodup) := by
  induction ns using snoc_ind with
  | h0 => exact ⟨Nat.le_refl _, by simp [dkOf]⟩
  | hs ns a ih =>
    rw [dkOf_snoc, List.length_append, List.length_singleton]
    by_cases h : a ∈ ns
    · have hl : (putK (dkOf ns) (.inl a) (.bl true)).length = (dkOf ns).length := by
        have hv := dkOf_val ns a
        rw [if_pos h] at hv
        exact putK_old hv
      rw [hl]
      refine ⟨by omega, ⟨fun z => by omega, fun z => ?_⟩⟩
      exact absurd rfl ((List.nodup_append.mp z).2.2 a h a (by simp))
    · have hv := dkOf_val ns a
      rw [if_neg h] at hv
      rw [putK_new _ hv, List.length_append, List.length_singleton]
      refine ⟨by omega, ⟨fun z => ?_, fun z => ?_⟩⟩
      · have hn := ih.2.mp (by omega)
        refine List.nodup_append.mpr ⟨hn, by simp, fun x hx y hy e => ?_⟩
        rw [List.mem_singleton.mp hy] at e
        exact h (e ▸ hx)
      · have hn := ih.2.mpr (List.nodup_append.mp z).1
        omega
theorem most_ge {p : Int} (hp : 1 ≤ p) (ns : List Int) : mostOf 0 ns ≥ p ↔ ∃ n ∈ ns, p ≤ n := by
  have fold : ∀ (r : List Int) (a : Int), r.foldl max a ≥ p ↔ p ≤ a ∨ ∃ n ∈ r, p ≤ n := by
    intro r
    induction r with
    | nil => intro a; simp
    | cons b r ih =>
      intro a
      rw [List.foldl_cons, ih]
      simp only [List.mem_cons, exists_eq_or_imp]
      constructor
      · rintro (h | h)
        · rcases Int.le_total a b with z | z
          · rw [Int.max_eq_right z] at h
            exact .inr (.inl h)
          · rw [Int.max_eq_left z] at h
            exact .inl h
        · exact .inr (.inr h)
      · rintro (h | h | h)
        · exact .inl (Int.le_trans h (Int.le_max_left _ _))
        · exact .inl (Int.le_trans h (Int.le_max_right _ _))
        · exact .inr h
  cases ns with
  | nil =>
    constructor
    · intro h
      exact absurd h (by show ¬ (0 : Int) ≥ p; omega)
    · rintro ⟨n, hn, _⟩
      cases hn
  | cons a r =>
    show r.foldl max a ≥ p ↔ _
    rw [fold]
    simp only [List.mem_cons, exists_eq_or_imp]
/-- the first k places of a ring led on -/
def putR (f : List Int) (c : List Int) : Nat → List Int
  | 0 => f
  | k + 1 => (putR f c k).set (c.getD k 0).toNat (c.getD ((k + 1) % c.length) 0)
theorem putR_len (f c : List Int) : ∀ k, (putR f c k).length = f.length
  | 0 => rfl
  | k + 1 => by
    show ((putR f c k).set _ _).length = _
    rw [List.length_set, putR_len]
def putRs (f : List Int) (cs : List (List Int)) : List Int := cs.foldl (fun f c => putR f c c.length) f
theorem putRs_len (cs : List (List Int)) : ∀ f, (putRs f cs).length = f.length := by
  induction cs with
  | nil => intro f; rfl
  | cons c r ih =>
    intro f
    show (putRs (putR f c c.length) r).length = _
    rw [ih, putR_len]
theorem putRs_snoc (f : List Int) (cs : List (List Int)) (c : List Int) : putRs f (cs ++ [c]) = putR (putRs f cs) c c.length := by
  unfold putRs
  rw [List.foldl_append]
  rfl
def rgI (p : Nat) : List Int := (List.range p).map fun i => ((i : Nat) : Int)
theorem rgI_len (p : Nat) : (rgI p).length = p := by
  unfold rgI
  rw [List.length_map, List.length_range]
/-- the move that some rings tell -/
def moveOf (p : Nat) (cs : List (List Int)) : Option (List Int) := if cs.flatten.Nodup ∧ ∀ x ∈ cs.flatten, x < (p : Int) then some (putRs (rgI p) cs) else none
theorem cyc_len (l : List Nat) (i : Nat) (acc : List Int) : ∀ c j, cyc l i acc = .ok (c, j) → c.length + i ≤ acc.length + j := by
  intro c j h
  fun_induction cyc l i acc with
  | case1 i acc h0 => cases h
  | case2 i acc h0 h1 =>
    cases h
    rw [List.length_append, List.length_singleton]
    omega
  | case3 i acc h0 h1 h2 ih =>
    have := ih h
    rw [List.length_append, List.length_singleton] at this
    omega
  | case4 i acc h0 h1 h2 => cases h
theorem cyc1_len {l : List Nat} {i j : Nat} {c : List Int} (h : cyc1 l i = .ok (c, j)) : c.length + i ≤ j := by
  unfold cyc1 at h
  split at h
  · have := cyc_len _ _ _ _ _ h
    rw [List.length_nil] at this
    omega
  · cases h
theorem cycs_len (l : List Nat) (i : Nat) (acc : List (List Int)) : ∀ cs j, cycs l i acc = .ok (cs, j) → cs.flatten.length + i ≤ acc.flatten.length + j := by
  intro cs j h
  fun_induction cycs l i acc with
  | case1 i acc e he => cases h
  | case2 i acc c k hk h0 ih =>
    have := ih h
    have := cyc1_len hk
    rw [List.flatten_append, List.length_append] at *
    simp only [List.flatten_cons, List.flatten_nil, List.append_nil] at *
    omega
  | case3 i acc c k hk h0 =>
    cases h
    have := cyc1_len hk
    rw [List.flatten_append, List.length_append]
    simp only [List.flatten_cons, List.flatten_nil, List.append_nil]
    omega
theorem cycsAt_len {l : List Nat} {i j : Nat} {cs : List (List Int)} (h : cycsAt l i = .ok (cs, j)) : cs.flatten.length ≤ j := by
  unfold cycsAt at h
  split at h
  · cases h
    exact Nat.zero_le _
  · have := cycs_len _ _ _ _ _ h
    simp only [List.flatten_nil, List.length_nil] at this
    omega
theorem trms_len (l : List Nat) (sg : Int) (i : Nat) (acc : List (Int × Int)) : ∀ ts, trms l sg i acc = .ok ts → ts.length ≤ acc.length + (l.length - i) := by
  intro ts h
  fun_induction trms l sg i acc with
  | case1 sg i acc e he => cases h
  | case2 sg i acc x p j hk h0 h1 => cases h
  | case3 sg i acc x p j hk h0 h1 h2 h3 ih =>
    have := ih h
    have := trm_ok hk
    rw [List.length_append, List.length_singleton] at *
    omega
  | case4 sg i acc x p j hk h0 h1 h2 h3 => cases h
  | case5 sg i acc x p j hk h0 h1 h2 => cases h
  | case6 sg i acc x p j hk h0 =>
    cases h
    have := trm_ok hk
    rw [List.length_append, List.length_singleton]
    omega
theorem termsOk_nil : TermsOk [] := fun t ht => absurd ht (by simp)
theorem termsOf_ok {l : List Nat} {ts : List (Int × Int)} (h : termsOf l = .ok ts) : TermsOk ts ∧ ts.length ≤ l.length := by
  unfold termsOf at h
  split at h
  · split at h
    · cases h
    · have := trms_len _ _ _ _ _ h
      rw [List.length_nil] at this
      exact ⟨trms_ok _ _ _ _ _ termsOk_nil h, by omega⟩
  · have := trms_len _ _ _ _ _ h
    rw [List.length_nil] at this
    exact ⟨trms_ok _ _ _ _ _ termsOk_nil h, by omega⟩
/-- a term added at its place -/
def addT (f : List Int) (t : Int × Int) : List Int := f.set t.2.toNat (f.getD t.2.toNat 0 + t.1)
def sumT (n : Nat) (ts : List (Int × Int)) : List Int := ts.foldl addT (List.replicate n 0)
theorem sumT_snoc (n : Nat) (ts : List (Int × Int)) (t : Int × Int) : sumT n (ts ++ [t]) = addT (sumT n ts) t := by
  unfold sumT
  rw [List.foldl_append]
  rfl
theorem sumT_len (n : Nat) (ts : List (Int × Int)) : (sumT n ts).length = n := by
  induction ts using snoc_ind with
  | h0 => exact List.length_replicate
  | hs ts t ih =>
    rw [sumT_snoc]
    unfold addT
    rw [List.length_set]
    exact ih
/-- the kinds that some terms tell -/
def kindsOf (n : Nat) (ts : List (Int × Int)) : Option (List Int) := if ts.any (fun t => decide ((n : Int) ≤ t.2)) = true then none else if (sumT n ts).all isI = true then some (sumT n ts) else none
def termsAll (l : List Nat) : Except Nat (List (Int × Int)) := if l = [48] then .ok [] else termsOf l
theorem termsAll_ok {l : List Nat} {ts : List (Int × Int)} (h : termsAll l = .ok ts) : TermsOk ts ∧ ts.length ≤ l.length := by
  unfold termsAll at h
  split at h
  · cases h
    exact ⟨termsOk_nil, Nat.zero_le _⟩
  · exact termsOf_ok h
end Tx

set_option maxHeartbeats 2000000
/-! Plain facts for the law's own reader of moves. -/
namespace Tx
open L2
theorem flat_at {cs : List (List Int)} {i : Nat} {c : List Int} (h : cs[i]? = some c) : cs.flatten = (cs.take i).flatten ++ c ++ (cs.drop (i + 1)).flatten := by
  have hi : i < cs.length := (List.getElem?_eq_some_iff.mp h).1
  have ec : cs[i] = c := (List.getElem?_eq_some_iff.mp h).2
  have h3 : cs = cs.take i ++ c :: cs.drop (i + 1) := by rw [← ec, List.getElem_cons_drop, List.take_append_drop]
  have h4 : cs.flatten = (cs.take i ++ c :: cs.drop (i + 1)).flatten := by rw [← h3]
  rw [h4, List.flatten_append, List.flatten_cons, List.append_assoc]
theorem flat_at2 {cs : List (List Int)} {i j : Nat} {c : List Int} {x : Int} (h : cs[i]? = some c) (hx : c[j]? = some x) : ∃ r, cs.flatten = ((cs.take i).flatten ++ c.take j) ++ x :: r := by
  have hj : j < c.length := (List.getElem?_eq_some_iff.mp hx).1
  have ex : c[j] = x := (List.getElem?_eq_some_iff.mp hx).2
  refine ⟨c.drop (j + 1) ++ (cs.drop (i + 1)).flatten, ?_⟩
  have h3 : c = c.take j ++ x :: c.drop (j + 1) := by rw [← ex, List.getElem_cons_drop, List.take_append_drop]
  have h4 : (cs.take i).flatten ++ c ++ (cs.drop (i + 1)).flatten = (cs.take i).flatten ++ (c.take j ++ x :: c.drop (j + 1)) ++ (cs.drop (i + 1)).flatten := by rw [← h3]
  rw [flat_at h, h4]
  simp only [List.append_assoc, List.cons_append]
theorem moveOf_dup {p : Nat} {cs : List (List Int)} {D r : List Int} {x : Int} (h : cs.flatten = D ++ x :: r) (hx : x ∈ D) : moveOf p cs = none := if_neg fun z => by
  have n := z.1
  rw [h] at n
  exact (List.nodup_append.mp n).2.2 x hx x List.mem_cons_self rfl
theorem moveOf_far {p : Nat} {cs : List (List Int)} {D r : List Int} {x : Int} (h : cs.flatten = D ++ x :: r) (hx : (p : Int) ≤ x) : moveOf p cs = none := if_neg fun z => by
  have n := z.2 x (by rw [h]; simp)
  omega
theorem putR_lt {P : Int → Prop} {f c : List Int} (hf : ∀ x ∈ f, P x) (hc : ∀ x ∈ c, P x) (h0 : c ≠ []) : ∀ k, ∀ x ∈ putR f c k, P x
  | 0 => hf
  | k + 1 => by
    intro x hx
    rcases List.mem_or_eq_of_mem_set hx with hx | hx
    · exact putR_lt hf hc h0 k x hx
    · have hl : (k + 1) % c.length < c.length := Nat.mod_lt _ (List.length_pos_iff.mpr h0)
      rw [hx, List.getD_eq_getElem?_getD, List.getElem?_eq_getElem hl]
      exact hc _ (List.getElem_mem hl)
theorem putRs_lt {P : Int → Prop} (cs : List (List Int)) : ∀ f : List Int, (∀ x ∈ f, P x) → (∀ c ∈ cs, c ≠ [] ∧ ∀ x ∈ c, P x) → ∀ x ∈ putRs f cs, P x := by
  induction cs with
  | nil => exact fun f hf _ => hf
  | cons c r ih =>
    intro f hf hc
    exact ih (putR f c c.length) (putR_lt hf (hc c List.mem_cons_self).2 (hc c List.mem_cons_self).1 _) fun d hd => hc d (List.mem_cons_of_mem _ hd)
theorem rgI_lt {p : Nat} : ∀ x ∈ rgI p, x < (p : Int) := by
  intro x hx
  obtain ⟨i, hi, rfl⟩ := List.mem_map.mp hx
  have := List.mem_range.mp hi
  omega
end Tx

set_option maxHeartbeats 2000000
/-! Plain facts for drawn moves: moves as lists, their rings; lengths of joined texts. -/
namespace Tx
open L2 PySem PySem.Spec
/-- a list that has each of 0, .., n - 1 once -/
def IsMove (n : Nat) (ns : List Int) : Prop := ns.length = n ∧ ns.Nodup ∧ ∀ x ∈ ns, 0 ≤ x ∧ x < (n : Int)
theorem pig : ∀ (n : Nat) (l : List Int), l.Nodup → (∀ x ∈ l, 0 ≤ x ∧ x < (n : Int)) → l.length ≤ n := by
  intro n
  induction n with
  | zero =>
    intro l _ h
    cases l with
    | nil => exact Nat.le_refl _
    | cons a r =>
      have := h a List.mem_cons_self
      omega
  | succ n ih =>
    intro l hn h
    by_cases hm : (n : Int) ∈ l
    · have h2 := ih (l.erase (n : Int)) (hn.erase _) fun x hx => by
        have h3 := h x (List.mem_of_mem_erase hx)
        have h4 : x ≠ (n : Int) := fun z => by
          rw [z] at hx
          exact hn.not_mem_erase hx
        omega
      rw [List.length_erase_of_mem hm] at h2
      omega
    · have h2 := ih l hn fun x hx => by
        have h3 := h x hx
        have h4 : x ≠ (n : Int) := fun z => hm (z ▸ hx)
        omega
      omega
/-- s led on k times -/
def orb (ns : List Int) (s : Int) : Nat → Int
  | 0 => s
  | k + 1 => ns.getD (orb ns s k).toNat 0
theorem orb_in {n : Nat} {ns : List Int} {s : Int} (h : IsMove n ns) (hs : 0 ≤ s ∧ s < (n : Int)) : ∀ k, 0 ≤ orb ns s k ∧ orb ns s k < (n : Int)
  | 0 => hs
  | k + 1 => by
    have hk := orb_in h hs k
    have hl : (orb ns s k).toNat < ns.length := by rw [h.1]; omega
    show 0 ≤ ns.getD (orb ns s k).toNat 0 ∧ ns.getD (orb ns s k).toNat 0 < (n : Int)
    rw [List.getD_eq_getElem?_getD, List.getElem?_eq_getElem hl]
    exact h.2.2 _ (List.getElem_mem hl)
theorem getD_inj {ns : List Int} (hn : ns.Nodup) {i j : Nat} (hi : i < ns.length) (hj : j < ns.length) (e : ns.getD i 0 = ns.getD j 0) : i = j := by
  rw [List.getD_eq_getElem?_getD, List.getElem?_eq_getElem hi, List.getD_eq_getElem?_getD, List.getElem?_eq_getElem hj] at e
  have hp := List.pairwise_iff_getElem.mp hn
  rcases Nat.lt_trichotomy i j with z | z | z
  · exact absurd e (hp i j hi hj z)
  · exact z
  · exact absurd e.symm (hp j i hj hi z)
theorem orb_back {n : Nat} {ns : List Int} {s : Int} (h : IsMove n ns) (hs : 0 ≤ s ∧ s < (n : Int)) : ∀ i j, orb ns s i = orb ns s (i + j) → orb ns s j = s
  | 0, j, e => by
    rw [Nat.zero_add] at e
    exact e.symm
  | i + 1, j, e => by
    have e2 : i + 1 + j = (i + j) + 1 := by omega
    rw [e2] at e
    have h1 := orb_in h hs i
    have h2 := orb_in h hs (i + j)
    have e3 := getD_inj h.2.1 (i := (orb ns s i).toNat) (j := (orb ns s (i + j)).toNat) (by rw [h.1]; omega) (by rw [h.1]; omega) e
    exact orb_back h hs i j (by omega)
/-- the first k of the ring of s -/
def ringL (ns : List Int) (s : Int) (k : Nat) : List Int := (List.range k).map (orb ns s)
theorem ringL_succ (ns : List Int) (s : Int) (k : Nat) : ringL ns s (k + 1) = ringL ns s k ++ [orb ns s k] := by
  unfold ringL
  rw [List.range_succ, List.map_append]
  rfl
theorem ringL_len (ns : List Int) (s : Int) (k : Nat) : (ringL ns s k).length = k := by
  unfold ringL
  rw [List.length_map, List.length_range]
theorem ring_few {n : Nat} {ns : List Int} {s : Int} (h : IsMove n ns) (hs : 0 ≤ s ∧ s < (n : Int)) {k : Nat} (ho : ∀ i, 0 < i → i < k → orb ns s i ≠ s) : k ≤ n := by
  have h1 := pig n (ringL ns s k) ?_ fun x hx => by
    obtain ⟨i, _, rfl⟩ := List.mem_map.mp hx
    exact orb_in h hs i
  · rwa [ringL_len] at h1
  · have aux : ∀ m, m ≤ k → (ringL ns s m).Nodup := by
      intro m
      induction m with
      | zero =>
        intro _
        exact List.nodup_nil
      | succ m ih =>
        intro hm
        rw [ringL_succ]
        refine List.nodup_append.mpr ⟨ih (by omega), by simp, fun x hx y hy e => ?_⟩
        rw [List.mem_singleton.mp hy] at e
        obtain ⟨i, hi, rfl⟩ := List.mem_map.mp hx
        have hi := List.mem_range.mp hi
        have e2 : i + (m - i) = m := by omega
        exact ho (m - i) (by omega) (by omega) (orb_back h hs i (m - i) (by rw [e2]; exact e))
    exact aux k (Nat.le_refl _)
theorem ringL_in {n : Nat} {ns : List Int} {s : Int} (h : IsMove n ns) (hs : 0 ≤ s ∧ s < (n : Int)) {k : Nat} : ∀ x ∈ ringL ns s k, 0 ≤ x ∧ x < (n : Int) := fun x hx => by
  obtain ⟨i, _, rfl⟩ := List.mem_map.mp hx
  exact orb_in h hs i
theorem erase_perm : ∀ (l : List Int) (i : Nat) (h : i < l.length), (l[i] :: l.eraseIdx i).Perm l
  | a :: r, 0, _ => List.Perm.refl _
  | a :: r, i + 1, h => by
    have ih := erase_perm r i (by simpa using h)
    show ((r[i]'(by simpa using h)) :: a :: r.eraseIdx i).Perm (a :: r)
    exact (List.Perm.swap a _ _).trans (ih.cons a)
theorem erase_map {α β : Type} (f : α → β) : ∀ (l : List α) (i : Nat), (l.map f).eraseIdx i = (l.eraseIdx i).map f
  | [], _ => rfl
  | a :: r, 0 => rfl
  | a :: r, i + 1 => by
    show f a :: (r.map f).eraseIdx i = f a :: (r.eraseIdx i).map f
    rw [erase_map f r i]
/-! ### lengths of texts -/
theorem sum_le {α : Type} (f : α → Nat) (B : Nat) : ∀ l : List α, (∀ a ∈ l, f a ≤ B) → (l.map f).sum ≤ l.length * B
  | [], _ => by simp
  | a :: r, h => by
    rw [List.map_cons, List.sum_cons, List.length_cons, Nat.add_mul, Nat.one_mul]
    have := sum_le f B r fun b hb => h b (List.mem_cons_of_mem _ hb)
    have := h a List.mem_cons_self
    omega
theorem app_len (x y : Str) : (x ++ y).length = x.length + y.length := by
  show (x.cps ++ y.cps).size = _
  rw [Array.size_append]
  rfl
theorem sjoin_len (y : Str) : ∀ ys : List Str, (Str.join y ys).length ≤ (ys.map (·.length)).sum + ys.length * y.length
  | [] => Nat.zero_le _
  | [x] => by
    show x.length ≤ _
    simp
  | x :: z :: r => by
    show (x ++ y ++ Str.join y (z :: r)).length ≤ _
    have := sjoin_len y (z :: r)
    rw [app_len, app_len]
    rw [List.map_cons, List.sum_cons, List.length_cons, Nat.add_mul, Nat.one_mul]
    omega
theorem join_len (y : Str) (ys : List Str) : (Txt.join y ys).length ≤ (ys.map (·.length)).sum + ys.length * y.length := by
  rw [TL.join_eq]
  exact sjoin_len y ys
theorem join_le {y : Str} {ys : List Str} {B n : Nat} (h : ∀ a ∈ ys, a.length ≤ B) (hn : ys.length ≤ n) : (Txt.join y ys).length ≤ n * (B + y.length) := by
  have h1 := join_len y ys
  have h2 := sum_le (fun a : Str => a.length) B ys h
  have h3 : ys.length * (B + y.length) ≤ n * (B + y.length) := Nat.mul_le_mul_right _ hn
  rw [Nat.mul_add] at h3
  omega
end Tx

set_option maxRecDepth 100000
set_option maxHeartbeats 2000000
/-! Readings reckoned by simp. -/
namespace Tx
open PySem PySem.Spec PyProof.Rows L2
theorem cxK {CX : CXT} {P : Program} {w : World} {K : PySem.W.Frag} {mg : Str → Option Value} {base : Heap} {N : List Str} {q : Str} {sc : Scope} {f : Addr} {cd : Value} {A : Around} {o : List Env} {s : Shared} {H : Hp} {E : XK} : (cxOf CX P w K mg base N q sc f cd A o s H E).K = K := rfl
/-- a text by its code points -/
abbrev tx (l : List Nat) : V := .str ⟨l.toArray⟩
theorem lit_e : Str.ofString "" = ⟨([] : List Nat).toArray⟩ := by decide +kernel
theorem lit_10 : Str.ofString "\n" = ⟨([10] : List Nat).toArray⟩ := by decide +kernel
theorem lit_32 : Str.ofString " " = ⟨([32] : List Nat).toArray⟩ := by decide +kernel
theorem lit_32_32 : Str.ofString "  " = ⟨([32, 32] : List Nat).toArray⟩ := by decide +kernel
theorem lit_32_43_32 : Str.ofString " + " = ⟨([32, 43, 32] : List Nat).toArray⟩ := by decide +kernel
theorem lit_32_43_32_91_49_93 : Str.ofString " + [1]" = ⟨([32, 43, 32, 91, 49, 93] : List Nat).toArray⟩ := by decide +kernel
theorem lit_32_45_32 : Str.ofString " - " = ⟨([32, 45, 32] : List Nat).toArray⟩ := by decide +kernel
theorem lit_40 : Str.ofString "(" = ⟨([40] : List Nat).toArray⟩ := by decide +kernel
theorem lit_40_41 : Str.ofString "()" = ⟨([40, 41] : List Nat).toArray⟩ := by decide +kernel
theorem lit_40_41_40_41 : Str.ofString "()()" = ⟨([40, 41, 40, 41] : List Nat).toArray⟩ := by decide +kernel
theorem lit_40_48_32_49 : Str.ofString "(0 1" = ⟨([40, 48, 32, 49] : List Nat).toArray⟩ := by decide +kernel
theorem lit_40_48_32_49_41 : Str.ofString "(0 1)" = ⟨([40, 48, 32, 49, 41] : List Nat).toArray⟩ := by decide +kernel
theorem lit_40_48_32_49_41_40_50_32_49_41 : Str.ofString "(0 1)(2 1)" = ⟨([40, 48, 32, 49, 41, 40, 50, 32, 49, 41] : List Nat).toArray⟩ := by decide +kernel
theorem lit_40_48_41 : Str.ofString "(0)" = ⟨([40, 48, 41] : List Nat).toArray⟩ := by decide +kernel
theorem lit_41 : Str.ofString ")" = ⟨([41] : List Nat).toArray⟩ := by decide +kernel
theorem lit_43 : Str.ofString "+" = ⟨([43] : List Nat).toArray⟩ := by decide +kernel
theorem lit_44 : Str.ofString "," = ⟨([44] : List Nat).toArray⟩ := by decide +kernel
theorem lit_44_44 : Str.ofString ",," = ⟨([44, 44] : List Nat).toArray⟩ := by decide +kernel
theorem lit_44_51 : Str.ofString ",3" = ⟨([44, 51] : List Nat).toArray⟩ := by decide +kernel
theorem lit_45 : Str.ofString "-" = ⟨([45] : List Nat).toArray⟩ := by decide +kernel
theorem lit_45_48 : Str.ofString "-0" = ⟨([45, 48] : List Nat).toArray⟩ := by decide +kernel
theorem lit_45_48_91_49_93 : Str.ofString "-0[1]" = ⟨([45, 48, 91, 49, 93] : List Nat).toArray⟩ := by decide +kernel
theorem lit_48 : Str.ofString "0" = ⟨([48] : List Nat).toArray⟩ := by decide +kernel
theorem lit_48_48 : Str.ofString "00" = ⟨([48, 48] : List Nat).toArray⟩ := by decide +kernel
theorem lit_48_49 : Str.ofString "01" = ⟨([48, 49] : List Nat).toArray⟩ := by decide +kernel
theorem lit_48_49_50_51_52_53_54_55_56_57 : Str.ofString "0123456789" = ⟨([48, 49, 50, 51, 52, 53, 54, 55, 56, 57] : List Nat).toArray⟩ := by decide +kernel
theorem lit_49 : Str.ofString "1" = ⟨([49] : List Nat).toArray⟩ := by decide +kernel
theorem lit_49_44_44_50 : Str.ofString "1,,2" = ⟨([49, 44, 44, 50] : List Nat).toArray⟩ := by decide +kernel
theorem lit_50 : Str.ofString "2" = ⟨([50] : List Nat).toArray⟩ := by decide +kernel
theorem lit_50_91_48_93_32_43_91_49_93 : Str.ofString "2[0] +[1]" = ⟨([50, 91, 48, 93, 32, 43, 91, 49, 93] : List Nat).toArray⟩ := by decide +kernel
theorem lit_57 : Str.ofString "9" = ⟨([57] : List Nat).toArray⟩ := by decide +kernel
theorem lit_91 : Str.ofString "[" = ⟨([91] : List Nat).toArray⟩ := by decide +kernel
theorem lit_91_48_49_93 : Str.ofString "[01]" = ⟨([91, 48, 49, 93] : List Nat).toArray⟩ := by decide +kernel
theorem lit_91_48_93 : Str.ofString "[0]" = ⟨([91, 48, 93] : List Nat).toArray⟩ := by decide +kernel
theorem lit_91_50_93 : Str.ofString "[2]" = ⟨([91, 50, 93] : List Nat).toArray⟩ := by decide +kernel
theorem lit_93 : Str.ofString "]" = ⟨([93] : List Nat).toArray⟩ := by decide +kernel
theorem lit_107_105_110_100_115 : Str.ofString "kinds" = ⟨([107, 105, 110, 100, 115] : List Nat).toArray⟩ := by decide +kernel
theorem lit_109_111_118_101 : Str.ofString "move" = ⟨([109, 111, 118, 101] : List Nat).toArray⟩ := by decide +kernel
theorem lit_112_97_114_115_101 : Str.ofString "parse" = ⟨([112, 97, 114, 115, 101] : List Nat).toArray⟩ := by decide +kernel
theorem lit_114_111_119 : Str.ofString "row" = ⟨([114, 111, 119] : List Nat).toArray⟩ := by decide +kernel
theorem lit_116_111_108_100 : Str.ofString "told" = ⟨([116, 111, 108, 100] : List Nat).toArray⟩ := by decide +kernel
theorem lit_120 : Str.ofString "x" = ⟨([120] : List Nat).toArray⟩ := by decide +kernel
theorem sz_of {n : Nat} (h : n ≤ 100000) : n ≤ sizeLine := Nat.le_trans h (by decide)
theorem sz_lt {n : Nat} (h : n < 100000) : n < sizeLine := Nat.lt_of_lt_of_le h (by decide)
theorem len_tx (l : List Nat) : (⟨l.toArray⟩ : Str).length = l.length := by simp [Str.length]
theorem tl_tx (l : List Nat) : (⟨l.toArray⟩ : Str).cps.toList = l := by simp
theorem app_tx (l m : List Nat) : (⟨l.toArray⟩ : Str) ++ ⟨m.toArray⟩ = ⟨(l ++ m).toArray⟩ := by
  show (⟨l.toArray ++ m.toArray⟩ : Str) = _
  simp
theorem eq_tx (l m : List Nat) : ((⟨l.toArray⟩ : Str) = ⟨m.toArray⟩) = (l = m) := by
  apply propext
  constructor
  · intro h
    injection h with h
    simpa using h
  · rintro rfl
    rfl
theorem sIx_le {n d : Nat} {i : Int} (h : 0 ≤ i) : HT.sIx n d (some i) = min i.toNat n := by
  obtain ⟨k, rfl⟩ := Int.eq_ofNat_of_zero_le h
  exact HT.sIx_nat n d k
theorem cut_nat (l : List Nat) (i j : Nat) : cutS ⟨l.toArray⟩ (some (i : Int)) (some (j : Int)) = ⟨((l.drop i).take (j - i)).toArray⟩ := by
  unfold cutS
  rw [len_tx, HT.sIx_nat, HT.sIx_nat]
  congr 2
  by_cases h : i ≤ l.length
  · rw [Nat.min_eq_left h]
    by_cases h2 : j ≤ l.length
    · rw [Nat.min_eq_left h2]
    · rw [Nat.min_eq_right (Nat.le_of_not_le h2)]
      rw [List.take_of_length_le (by simp), List.take_of_length_le (by simp; omega)]
  · have hl : l.length ≤ i := Nat.le_of_not_le h
    rw [Nat.min_eq_right hl, List.drop_of_length_le (Nat.le_refl l.length), List.drop_of_length_le hl]
    simp
theorem cut_to (l : List Nat) (j : Nat) : cutS ⟨l.toArray⟩ none (some (j : Int)) = ⟨(l.take j).toArray⟩ := by
  unfold cutS
  rw [len_tx, HT.sIx_none, HT.sIx_nat]
  congr 2
  simp only [List.drop_zero, Nat.sub_zero]
  by_cases h2 : j ≤ l.length
  · rw [Nat.min_eq_left h2]
  · rw [Nat.min_eq_right (Nat.le_of_not_le h2), List.take_of_length_le (Nat.le_refl _), List.take_of_length_le (Nat.le_of_not_le h2)]
theorem cut_from (l : List Nat) (i : Nat) : cutS ⟨l.toArray⟩ (some (i : Int)) none = ⟨(l.drop i).toArray⟩ := by
  unfold cutS
  rw [len_tx, HT.sIx_none, HT.sIx_nat]
  congr 2
  by_cases h : i ≤ l.length
  · rw [Nat.min_eq_left h, List.take_of_length_le (by simp)]
  · have hl : l.length ≤ i := Nat.le_of_not_le h
    rw [Nat.min_eq_right hl, List.drop_of_length_le (Nat.le_refl l.length), List.drop_of_length_le hl]
    simp
theorem cut_t1 (l : List Nat) : cutS ⟨l.toArray⟩ none (some 1) = ⟨(l.take 1).toArray⟩ := cut_to l 1
theorem cut_t2 (l : List Nat) : cutS ⟨l.toArray⟩ none (some 2) = ⟨(l.take 2).toArray⟩ := cut_to l 2
theorem cut_t3 (l : List Nat) : cutS ⟨l.toArray⟩ none (some 3000) = ⟨(l.take 3000).toArray⟩ := cut_to l 3000
theorem one_at (l : List Nat) (i c : Nat) : ((l.drop i).take 1 = [c]) = (l[i]? = some c) := by
  apply propext
  rw [← List.head?_drop]
  cases h : l.drop i with
  | nil => simp
  | cons a r => simp
theorem none_at (l : List Nat) (i : Nat) : ((l.drop i).take 1 = []) = (l[i]? = none) := by
  apply propext
  rw [← List.head?_drop]
  cases h : l.drop i with
  | nil => simp
  | cons a r => simp
theorem isi_of {K : PySem.W.Frag} {x : V} {T t : String} {b : Bool} {H : Hp} {Q : VK} (ht : TyX K H x (.type t)) (hb : kitB t T = some b) (q : Q (.bl b) H) : rIsi K [x, .ty T] H Q := ⟨x, .ty T, _, _, b, rfl, .ty T, ht, kit_ty hb, q⟩
theorem ty_int {K : PySem.W.Frag} {H : Hp} {i : Int} : TyX K H (.int i) (.type "int") := .base (.int i)
theorem ty_str {K : PySem.W.Frag} {H : Hp} {i : Str} : TyX K H (.str i) (.type "str") := .base (.str i)
theorem ixS_of {l : List Nat} {i c : Nat} {H : Hp} {Q : VK} (hl : l.length ≤ 100000) (h : l[i]? = some c) (q : Q (.str ⟨#[c]⟩) H) : rIxS (tx l) (.int (i : Nat)) H Q :=
  ⟨⟨l.toArray⟩, i, c, rfl, rfl, by rw [len_tx]; exact sz_of hl, by rw [tl_tx]; exact atI_nat h, q⟩
theorem digs {c : Nat} : c ∈ [48, 49, 50, 51, 52, 53, 54, 55, 56, 57] ↔ 48 ≤ c ∧ c ≤ 57 := by
  simp only [List.mem_cons, List.not_mem_nil, or_false]
  omega
theorem ex2 {α β : Type} {a : α} {b : β} {P : α → β → Prop} : (∃ v r, (a = v ∧ b = r) ∧ P v r) = P a b := by
  apply propext
  constructor
  · rintro ⟨v, r, ⟨rfl, rfl⟩, h⟩
    exact h
  · exact fun h => ⟨a, b, ⟨rfl, rfl⟩, h⟩
theorem ex3 {α β γ : Type} {a : α} {b : β} {c : γ} {P : α → β → γ → Prop} : (∃ u v w, (a = u ∧ b = v ∧ c = w) ∧ P u v w) = P a b c := by
  apply propext
  constructor
  · rintro ⟨u, v, w, ⟨rfl, rfl, rfl⟩, h⟩
    exact h
  · exact fun h => ⟨a, b, c, ⟨rfl, rfl, rfl⟩, h⟩
theorem unp {K : PySem.W.Frag} {a : Addr} {H : Hp} {xs : List V} {n : Nat} {Q : List V → Prop} (h : H a = some (.tup xs)) (hn : xs.length = n) (q : Q xs) : ∃ ys, SqT K H a ys ∧ ys.length = n ∧ Q ys := ⟨xs, SqT.of h, hn, q⟩
theorem app_of {K : PySem.W.Frag} {H : Hp} {f : Addr} {xs : List V} {Q : List V → Prop} (h : H f = some (.lst xs)) (hz : xs.length < 100000) (q : Q xs) :
    tyV K "list" (.ref f) H ∧ ∃ zs, H f = some (.lst zs) ∧ zs.length < sizeLine ∧ Q zs := ⟨Or.inl ⟨rfl, _, Or.inl (Or.inl h)⟩, xs, h, sz_lt hz, q⟩
theorem Same.mut {H H' : Hp} {p : Addr} {o : HO} (e : Same H H') (h : H p = none) : Same H (upd H' p o) := fun a u ha => by
  rw [upd_ne (ne_of_none ha h)]
  exact e a u ha
/-- values that are tuples of integers -/
abbrev Tups (H : Hp) : List V → List (List Int) → Prop := Paired fun v c => ∃ a, v = .ref a ∧ H a = some (.tup (c.map V.int))
theorem Tups.go {H H' : Hp} {rs : List V} {cs : List (List Int)} (t : Tups H rs cs) (e : Same H H') : Tups H' rs cs := Paired.mapP t fun v c ⟨a, ha, h⟩ => ⟨a, ha, e _ _ h⟩
theorem Tups.mut {H : Hp} {rs : List V} {cs : List (List Int)} {f : Addr} {xs : List V} {o : HO} (t : Tups H rs cs) (h : H f = some (.lst xs)) : Tups (upd H f o) rs cs := Paired.mapP t fun v c ⟨a, ha, h'⟩ => ⟨a, ha, by rw [upd_ne (ne_of h' h (by intro z; cases z))]; exact h'⟩
theorem Paired.snoc {α β : Type} {R : α → β → Prop} : ∀ {xs : List α} {ys : List β} {x : α} {y : β}, Paired R xs ys → R x y → Paired R (xs ++ [x]) (ys ++ [y])
  | _, _, _, _, .nil, r => .cons r .nil
  | _, _, _, _, .cons a t, r => .cons a (Paired.snoc t r)
theorem nc1 (i : Nat) : (i : Int) + 1 = ((i + 1 : Nat) : Int) := rfl
theorem nc2 (i : Nat) : (i : Int) + 2 = ((i + 2 : Nat) : Int) := rfl
theorem nc3 (i : Nat) : (i : Int) + 3 = ((i + 3 : Nat) : Int) := rfl
theorem nca (i j : Nat) : (i : Int) + (j : Int) = ((i + j : Nat) : Int) := rfl
theorem sub1 (i : Nat) : i + 1 - i = 1 := by omega
theorem two_at (l : List Nat) (i c d : Nat) : ((l.drop i).take 2 = [c, d]) = (l[i]? = some c ∧ l[i + 1]? = some d) := by
  apply propext
  have h0 : l[i]? = (l.drop i)[0]? := by rw [List.getElem?_drop]; rfl
  have h1 : l[i + 1]? = (l.drop i)[1]? := by rw [List.getElem?_drop]
  rw [h0, h1]
  cases h : l.drop i with
  | nil => simp
  | cons a r =>
    cases r with
    | nil => simp
    | cons b r => simp
theorem take1 (l : List Nat) (c : Nat) : (l.take 1 = [c]) = (l[0]? = some c) := one_at l 0 c
theorem take2 (l : List Nat) (c d : Nat) : (l.take 2 = [c, d]) = (l[0]? = some c ∧ l[1]? = some d) := two_at l 0 c d
theorem dr0 (l : List Nat) (i : Nat) : (l.drop i)[0]? = l[i]? := by rw [List.getElem?_drop]; rfl
theorem dr1 (l : List Nat) (i : Nat) : (l.drop i)[1]? = l[i + 1]? := by rw [List.getElem?_drop]
theorem eqV_tx (s t : List Nat) : eqV (tx s) (tx t) = decide (s = t) := by
  show ((⟨s.toArray⟩ : Str) == ⟨t.toArray⟩) = decide (s = t)
  by_cases h : s = t
  · subst h
    simp
  · rw [decide_eq_false h]
    rw [beq_eq_false_iff_ne]
    intro e
    exact h (by rwa [eq_tx] at e)
theorem notIn2 {K : PySem.W.Frag} {s a b : List Nat} {H : Hp} {p : Addr} {Q : VK} (h : H p = some (.tup [tx a, tx b])) (q : Q (.bl (!decide (s = a ∨ s = b))) H) : rIn K true (tx s) (.ref p) H Q := by
  refine ⟨p, _, rfl, .inr (SqT.of h), rfl, rfl, ?_⟩
  have e : (if true = true then !inV (tx s) [tx a, tx b] else inV (tx s) [tx a, tx b]) = !decide (s = a ∨ s = b) := by
    rw [if_pos rfl]
    unfold inV
    simp only [List.any_cons, List.any_nil, Bool.or_false, eqV_tx]
    rw [Bool.decide_or]
    congr 1
    congr 1
    · exact decide_eq_decide.mpr ⟨Eq.symm, Eq.symm⟩
    · exact decide_eq_decide.mpr ⟨Eq.symm, Eq.symm⟩
  rw [e]
  exact q
theorem cmul1 {a b : Int} (h : a = 1 ∨ a = -1) : CMul a b := by
  refine .inl ?_
  rcases h with rfl | rfl <;> decide
theorem ite_b {b : Bool} {A B : Prop} : (if b = true then A else B) = ((b = true → A) ∧ (b = false → B)) := by
  cases b <;> simp
theorem ite_d {c : Prop} [Decidable c] {A B : Prop} : (if decide c = true then A else B) = ((c → A) ∧ (¬ c → B)) := by
  by_cases h : c <;> simp [h]
theorem ite_nd {c : Prop} [Decidable c] {A B : Prop} : (if (!decide c) = true then A else B) = ((¬ c → A) ∧ (c → B)) := by
  by_cases h : c <;> simp [h]
theorem SqT.new {K : PySem.W.Frag} {H : Hp} {a p : Addr} {xs : List V} {o : HO} (h : SqT K H a xs) (hp : H p = none) : SqT K (upd H p o) a xs := by
  rcases h with (h | ⟨u, h⟩) | h
  · exact .inl (.inl (by rw [upd_ne (ne_of_none h hp)]; exact h))
  · exact .inl (.inr ⟨u, by rw [upd_ne (ne_of_none h hp)]; exact h⟩)
  · exact .inr h
theorem SqL.new {K : PySem.W.Frag} {H : Hp} {a p : Addr} {xs : List V} {o : HO} (h : SqL K H a xs) (hp : H p = none) : SqL K (upd H p o) a xs := by
  rcases h with (h | ⟨u, h⟩) | h
  · exact .inl (.inl (by rw [upd_ne (ne_of_none h hp)]; exact h))
  · exact .inl (.inr ⟨u, by rw [upd_ne (ne_of_none h hp)]; exact h⟩)
  · exact .inr h
theorem Same.new {H : Hp} {p : Addr} {o : HO} (hp : H p = none) : Same H (upd H p o) := fun b u e => by rw [upd_ne (ne_of_none e hp)]; exact e
theorem Same.tup {K : PySem.W.Frag} {H H' : Hp} {a : Addr} {xs : List V} (e : Same H H') (h : SqT K H a xs) : SqT K H' a xs := by
  rcases h with (h | ⟨o, h⟩) | h
  · exact .inl (.inl (e _ _ h))
  · exact .inl (.inr ⟨o, e _ _ h⟩)
  · exact .inr h
section
variable {K : PySem.W.Frag} {mg : Str → Option Value} {H H1 : Hp} {Q : VK} {E : XK}
/-- a new tuple is handed back -/
def okTup (H : Hp) (Q : VK) (xs : List V) : Prop := ∀ p H', Same H H' → H p = none → H' p = some (.tup xs) → Q (.ref p) H'
/-- a ParseError leaves -/
def errAt (S : Pg K mg) (i : Nat) (H : Hp) (E : XK) : Prop := ∀ d H', Same H H' → H d = none → H' d = some (.xd [("index", .int i)]) → E (.ref S.c_ParseError) (some d) H'
theorem okTup.go {xs : List V} (k : okTup H Q xs) (e : Same H H1) : okTup H1 Q xs := fun p H' e' h h' => k p H' (e.trans e') (e.free h) h'
theorem errAt.go {S : Pg K mg} {i : Nat} (k : errAt S i H E) (e : Same H H1) : errAt S i H1 E := fun p H' e' h h' => k p H' (e.trans e') (e.free h) h'
theorem okTup.now {xs : List V} (k : okTup H Q xs) : ∀ p, H p = none → Q (.ref p) (upd H p (.tup xs)) := fun p hp => k p _ (Same.new hp) hp upd_same
theorem errAt.now {S : Pg K mg} {i : Nat} (k : errAt S i H E) : ∀ d, H d = none → E (.ref S.c_ParseError) (some d) (upd H d (.xd [("index", .int i)])) := fun p hp => k p _ (Same.new hp) hp upd_same
end
end Tx

set_option maxRecDepth 100000
set_option maxHeartbeats 2000000
namespace Tx
open PySem PySem.Spec PyProof.Rows L2
local macro_rules | `(tactic| walk_at "sx") => `(tactic| simp only [cxK, tSeq, tIfS, tTest, tOp, tUn, tSl, tVar, tPart, tNoPart, tC, tRet, tRetN, tNext, tAsg, tPar, tPar3, tAug, tDrop, tB, tAnd, tOr, tNot, tAndV, tOrV, tNotV, tIf, tChain, tCons, tNil, tTup, tLst, tCall, tCB, tBM, tBM0, gName, gCons, gNil, gTup, rNe, rEq, rI0, rI, rU, rSlS, ipI, tRaiseErr, tMkErr, rAppend, tLstRg, tRg1, tRg2, L2.start, List.map_cons, List.map_nil, List.length_cons, List.length_nil, List.cons_append, List.nil_append, List.append_nil, List.getElem?_cons_zero, List.getElem?_cons_succ, List.set_cons_zero, List.set_cons_succ, Option.some.injEq, V.int.injEq, V.str.injEq, V.bl.injEq, V.ref.injEq, List.cons.injEq, exists_eq_left, exists_eq_left', exists_eq_right', exists_and_left, exists_and_right, true_and, and_true, Nat.reduceAdd, Nat.reduceSub, Nat.zero_add, List.replicate_zero, List.replicate_succ, ite_d, ite_nd, ite_b, scal, len_tx, tl_tx, eq_tx, app_tx, cut_nat, cut_to, cut_from, cut_t1, cut_t2, cut_t3, one_at, none_at, two_at, take1, take2, dr0, dr1, forall_eq', forall_eq, nc1, nc2, nc3, nca, Int.natCast_pos, Int.natCast_eq_zero, Bool.not_eq_true', Bool.not_eq_false', decide_eq_true_eq, decide_eq_false_iff_not, Bool.not_true, Bool.not_false, Decidable.not_not, WE, ex2, ex3, Nat.add_sub_add_left, Int.ofNat_lt, Int.natCast_inj, if_true, if_false, Bool.true_eq_false, Bool.false_eq_true, eq_self_iff_true, Nat.add_sub_cancel_left, Nat.add_sub_cancel, imp_false, not_false_eq_true, not_true_eq_false, forall_const, exists_and_self, reduceCtorEq, false_and, and_false, exists_false, List.cons_ne_nil, wipe, List.foldr_cons, List.foldr_nil, List.foldl_cons, List.foldl_nil, tYes, tCKw, tM1, gSub, tAugS, lit_e, lit_10, lit_32, lit_32_32, lit_32_43_32, lit_32_43_32_91_49_93, lit_32_45_32, lit_40, lit_40_41, lit_40_41_40_41, lit_40_48_32_49, lit_40_48_32_49_41, lit_40_48_32_49_41_40_50_32_49_41, lit_40_48_41, lit_41, lit_43, lit_44, lit_44_44, lit_44_51, lit_45, lit_45_48, lit_45_48_91_49_93, lit_48, lit_48_48, lit_48_49, lit_48_49_50_51_52_53_54_55_56_57, lit_49, lit_49_44_44_50, lit_50, lit_50_91_48_93_32_43_91_49_93, lit_57, lit_91, lit_91_48_49_93, lit_91_48_93, lit_91_50_93, lit_93, lit_107_105_110_100_115, lit_109_111_118_101, lit_112_97_114_115_101, lit_114_111_119, lit_116_111_108_100, lit_120])
local macro_rules | `(tactic| walk_at "sl") => `(tactic| simp only [lit_e, lit_10, lit_32, lit_32_32, lit_32_43_32, lit_32_43_32_91_49_93, lit_32_45_32, lit_40, lit_40_41, lit_40_41_40_41, lit_40_48_32_49, lit_40_48_32_49_41, lit_40_48_32_49_41_40_50_32_49_41, lit_40_48_41, lit_41, lit_43, lit_44, lit_44_44, lit_44_51, lit_45, lit_45_48, lit_45_48_91_49_93, lit_48, lit_48_48, lit_48_49, lit_48_49_50_51_52_53_54_55_56_57, lit_49, lit_49_44_44_50, lit_50, lit_50_91_48_93_32_43_91_49_93, lit_57, lit_91, lit_91_48_49_93, lit_91_48_93, lit_91_50_93, lit_93, lit_107_105_110_100_115, lit_109_111_118_101, lit_112_97_114_115_101, lit_114_111_119, lit_116_111_108_100, lit_120])
section
variable {w : World} {K : PySem.W.Frag} {mg : Str → Option Value} {base : Heap}
def sp_is_plain : Sp := fun vs H Q _ => ∃ i : Int, vs = [.int i] ∧ Q (.bl true) H
theorem ok_is_plain (S : Pg K mg) : FnOk prog w K mg base CX0 1 S.is_plain.f S.is_plain.fd ["value"] sp_is_plain := by
  refine S.is_plain.F.ok sc_is_plain (fun vs H Q E h => ?_) (fun cdv A outer s H vs Q E hr h => ?_)
  · obtain ⟨i, rfl, _⟩ := h
    rfl
  · obtain ⟨i, rfl, k⟩ := h
    refine ⟨_, (pss_one (ps_ret (pe_and (pe_callB call_isi (by rfl) S.b_isinstance (by decide +kernel) (pa_cons (pv 0) (pa_cons (pe_bltn (v := .ty "int") (u := .type "int") (by rfl) S.b_int (by decide +kernel) rfl) pa_nil))) (pe_one (pe_not (pe_callB call_isi (by rfl) S.b_isinstance (by decide +kernel) (pa_cons (pv 0) (pa_cons (pe_bltn (v := .ty "bool") (u := .type "bool") (by rfl) S.b_bool (by decide +kernel) rfl) pa_nil)))))))), ?_⟩
    walk_at "sx"
    refine isi_of (b := true) ty_int (by decide +kernel) ?_
    refine ⟨_, rfl, fun _ => ?_, fun h => nomatch h⟩
    refine isi_of (b := false) ty_int (by decide +kernel) ?_
    exact ⟨_, rfl, k⟩
def sp_require_sign (S : Pg K mg) : Sp := fun vs H Q E => ∃ (l : List Nat) (i c : Nat), vs = [tx l, .int i, tx [c]] ∧ l.length ≤ 100000 ∧
  (l[i]? = some c → Q (.int ((i + 1 : Nat) : Int)) H) ∧ (l[i]? ≠ some c → errAt S i H E)
theorem ok_require_sign (S : Pg K mg) : FnOk prog w K mg base (L2.CX prog w) 2 S.require_sign.f S.require_sign.fd ["text", "index", "sign"] (sp_require_sign S) := by
  refine S.require_sign.F.okX sc_require_sign (fun vs H Q E h => ?_) (fun cdv A outer s H vs Q E hr h => ?_)
  · obtain ⟨l, i, c, rfl, _⟩ := h
    rfl
  · obtain ⟨l, i, c, rfl, hl, k1, k2⟩ := h
    refine ⟨_, (pss_cons (ps_if (pt_cmpR op_ne (pe_slice sl_str (pv 0) (po_some (pv 1)) (po_some (pe_op op_add (pv 1) pe_int))) (pv 2) (nomark _))
    (pss_one (ps_raiseErr rfl S.e_ParseError hr (takes_of rfl rfl rfl rfl) (pa_cons (pv 1) pa_nil)))
    pss_nil)
  (pss_one (ps_ret (pe_op op_add (pv 1) pe_int)))), ?_⟩
    walk_at "sx"
    exact ⟨sz_of hl, fun c => (k2 c).now, k1⟩
def sp_plain_at (S : Pg K mg) : Sp := fun vs H Q E => ∃ (l : List Nat) (i : Nat), vs = [tx l, .int i] ∧ l.length ≤ 100000 ∧
  (figs l i = 0 → errAt S i H E) ∧ (figs l i ≠ 0 → okTup H Q [.int (num l i), .int ((i + figs l i : Nat) : Int)])
theorem ok_plain_at (S : Pg K mg) : FnOk prog w K mg base (L2.CX prog w) 2 S.plain_at.f S.plain_at.fd ["text", "index"] (sp_plain_at S) := by
  refine S.plain_at.F.okX sc_plain_at (fun vs H Q E h => ?_) (fun cdv A outer s H vs Q E hr h => ?_)
  · obtain ⟨l, i, rfl, _⟩ := h
    rfl
  · obtain ⟨l, i, rfl, hl, k1, k2⟩ := h
    refine ⟨_, (pss_cons (ps_par (i := 2) (j := 3) (by rfl) sc_plain_at.nd rfl rfl (by decide) rfl rfl (pa_cons (pv 1) (pa_cons (pe_op op_add (pv 1) (pe_ifExp (pt_cmpR op_eq (pe_slice sl_str (pv 0) (po_some (pv 1)) (po_some (pe_op op_add (pv 1) pe_int))) pe_str (nomark _)) pe_int (pe_glob (v := .int 60) rfl S.g_MOST_FIGURES ⟨_, rfl⟩))) pa_nil)) (by rfl))
  (pss_cons (ps_while (passes_of rfl) (PW.pt (pw_and (pt_cmpR op_lt (pv 2) (pe_callB (call_min2 rfl) (by rfl) S.b_min (by decide +kernel) (pa_cons (pe_callB call_len_str (by rfl) S.b_len (by decide +kernel) (pa_cons (pv 0) pa_nil)) (pa_cons (pv 3) pa_nil))) (nomark _)) (pw_and1 (pt_cmpR op_in_sign (pe_ix ix_str (pv 0) (pv 2) (fun _ _ => rfl)) (pe_glob (v := .str "0123456789") rfl S.g_FIGURES ⟨_, rfl⟩) rfl))))
    (pss_one (ps_aug (i := 2) sc_plain_at.nd rfl (Or.inl rfl) pe_int ip_add)))
  (pss_cons (ps_if (pt_cmpR op_eq (pv 2) (pv 1) (nomark _))
    (pss_one (ps_raiseErr rfl S.e_ParseError hr (takes_of rfl rfl rfl rfl) (pa_cons (pv 1) pa_nil)))
    pss_nil)
  (pss_one (ps_ret (pe_tup (pa_cons (pe_callTy call_int_str (by rfl) S.b_int (by decide +kernel) (pa_cons (pe_slice sl_str (pv 0) (po_some (pv 1)) (po_some (pv 2))) pa_nil)) (pa_cons (pv 2) pa_nil)))))))), ?_⟩
    walk_at "sx"
    refine ⟨sz_of hl, fun c => ?_, fun c => ?_⟩
    all_goals
      refine ⟨fun m σ H' => H' = H ∧ ∃ j : Nat, j ≤ figs l i ∧ m = figs l i - j ∧ σ = [some (tx l), some (.int i), some (.int ((i + j : Nat) : Int)), some (.int ((i + mx l i : Nat) : Int))], ⟨_, rfl, 0, Nat.zero_le _, rfl, ?_⟩, ?_⟩
      · unfold mx
        first
          | rw [if_pos c]
          | rw [if_neg c]
        all_goals rfl
      rintro m σ H' ⟨rfl, j, hj, rfl, rfl⟩
      walk_at "sx"
      refine ⟨sz_of hl, fun ht => ?_, fun ht => ?_⟩
      · have hb : i + j < l.length ∧ j < mx l i := by split at ht <;> omega
        refine ixS_of hl (List.getElem?_eq_getElem hb.1) ⟨_, rfl, fun hd => ?_, fun hd => ?_⟩
        · have h1 := lead_next hj hb.2 (by rw [List.getElem?_drop]; exact List.getElem?_eq_getElem hb.1) (digs.mp hd)
          exact ⟨_, fun _ _ h => h, figs l i - (j + 1), by unfold figs at *; omega, rfl, j + 1, h1, rfl, rfl⟩
        · have e : figs l i = j := lead_end hj (by rw [List.getElem?_drop]; exact List.getElem?_eq_getElem hb.1) (fun z => hd (digs.mpr z))
          exact ⟨fun h => (k1 (by omega)).now, fun h => ⟨sz_of hl, _, num_read l i j e.symm (by omega), by rw [List.length_take]; have := figs_60 l i; omega, by decide, by have k := (k2 (by omega)).now; rw [e] at k; exact k⟩⟩
      · have hb : l.length ≤ i + j ∨ mx l i ≤ j := by split at ht <;> omega
        have e : figs l i = j := by
          have a1 := figs_len l i
          have a2 := figs_mx l i
          omega
        exact ⟨fun h => (k1 (by omega)).now, fun h => ⟨sz_of hl, _, num_read l i j e.symm (by omega), by rw [List.length_take]; have := figs_60 l i; omega, by decide, by have k := (k2 (by omega)).now; rw [e] at k; exact k⟩⟩
end
end Tx

set_option maxRecDepth 100000
set_option maxHeartbeats 2000000
namespace Tx
open PySem PySem.Spec PyProof.Rows L2
local macro_rules | `(tactic| walk_at "sx") => `(tactic| simp only [cxK, tSeq, tIfS, tTest, tOp, tUn, tSl, tVar, tPart, tNoPart, tC, tRet, tRetN, tNext, tAsg, tPar, tPar3, tAug, tDrop, tB, tAnd, tOr, tNot, tAndV, tOrV, tNotV, tIf, tChain, tCons, tNil, tTup, tLst, tCall, tCB, tBM, tBM0, gName, gCons, gNil, gTup, rNe, rEq, rI0, rI, rU, rSlS, ipI, tRaiseErr, tMkErr, rAppend, tLstRg, tRg1, tRg2, L2.start, List.map_cons, List.map_nil, List.length_cons, List.length_nil, List.cons_append, List.nil_append, List.append_nil, List.getElem?_cons_zero, List.getElem?_cons_succ, List.set_cons_zero, List.set_cons_succ, Option.some.injEq, V.int.injEq, V.str.injEq, V.bl.injEq, V.ref.injEq, List.cons.injEq, exists_eq_left, exists_eq_left', exists_eq_right', exists_and_left, exists_and_right, true_and, and_true, Nat.reduceAdd, Nat.reduceSub, Nat.zero_add, List.replicate_zero, List.replicate_succ, ite_d, ite_nd, ite_b, scal, len_tx, tl_tx, eq_tx, app_tx, cut_nat, cut_to, cut_from, cut_t1, cut_t2, cut_t3, one_at, none_at, two_at, take1, take2, dr0, dr1, forall_eq', forall_eq, nc1, nc2, nc3, nca, Int.natCast_pos, Int.natCast_eq_zero, Bool.not_eq_true', Bool.not_eq_false', decide_eq_true_eq, decide_eq_false_iff_not, Bool.not_true, Bool.not_false, Decidable.not_not, WE, ex2, ex3, Nat.add_sub_add_left, Int.ofNat_lt, Int.natCast_inj, if_true, if_false, Bool.true_eq_false, Bool.false_eq_true, eq_self_iff_true, Nat.add_sub_cancel_left, Nat.add_sub_cancel, imp_false, not_false_eq_true, not_true_eq_false, forall_const, exists_and_self, reduceCtorEq, false_and, and_false, exists_false, List.cons_ne_nil, wipe, List.foldr_cons, List.foldr_nil, List.foldl_cons, List.foldl_nil, tYes, tCKw, tM1, gSub, tAugS, lit_e, lit_10, lit_32, lit_32_32, lit_32_43_32, lit_32_43_32_91_49_93, lit_32_45_32, lit_40, lit_40_41, lit_40_41_40_41, lit_40_48_32_49, lit_40_48_32_49_41, lit_40_48_32_49_41_40_50_32_49_41, lit_40_48_41, lit_41, lit_43, lit_44, lit_44_44, lit_44_51, lit_45, lit_45_48, lit_45_48_91_49_93, lit_48, lit_48_48, lit_48_49, lit_48_49_50_51_52_53_54_55_56_57, lit_49, lit_49_44_44_50, lit_50, lit_50_91_48_93_32_43_91_49_93, lit_57, lit_91, lit_91_48_49_93, lit_91_48_93, lit_91_50_93, lit_93, lit_107_105_110_100_115, lit_109_111_118_101, lit_112_97_114_115_101, lit_114_111_119, lit_116_111_108_100, lit_120])
local macro_rules | `(tactic| walk_at "sl") => `(tactic| simp only [lit_e, lit_10, lit_32, lit_32_32, lit_32_43_32, lit_32_43_32_91_49_93, lit_32_45_32, lit_40, lit_40_41, lit_40_41_40_41, lit_40_48_32_49, lit_40_48_32_49_41, lit_40_48_32_49_41_40_50_32_49_41, lit_40_48_41, lit_41, lit_43, lit_44, lit_44_44, lit_44_51, lit_45, lit_45_48, lit_45_48_91_49_93, lit_48, lit_48_48, lit_48_49, lit_48_49_50_51_52_53_54_55_56_57, lit_49, lit_49_44_44_50, lit_50, lit_50_91_48_93_32_43_91_49_93, lit_57, lit_91, lit_91_48_49_93, lit_91_48_93, lit_91_50_93, lit_93, lit_107_105_110_100_115, lit_109_111_118_101, lit_112_97_114_115_101, lit_114_111_119, lit_116_111_108_100, lit_120])
section
variable {w : World} {K : PySem.W.Frag} {mg : Str → Option Value} {base : Heap}
def sp_signed_at (S : Pg K mg) : Sp := fun vs H Q E => ∃ (l : List Nat) (i : Nat), vs = [tx l, .int i] ∧ l.length ≤ 100000 ∧
  match sgn l i with
  | .error e => errAt S e H E
  | .ok (x, j) => okTup H Q [.int x, .int ((j : Nat) : Int)]
theorem ok_signed_at (S : Pg K mg) : FnOk prog w K mg base (L2.CX prog w) 3 S.signed_at.f S.signed_at.fd ["text", "index"] (sp_signed_at S) := by
  refine S.signed_at.F.okX sc_signed_at (fun vs H Q E h => ?_) (fun cdv A outer s H vs Q E hr h => ?_)
  · obtain ⟨l, i, rfl, _⟩ := h
    rfl
  · obtain ⟨l, i, rfl, hl, k⟩ := h
    refine ⟨_, (pss_cons (ps_if (pt_cmpR op_ne (pe_slice sl_str (pv 0) (po_some (pv 1)) (po_some (pe_op op_add (pv 1) pe_int))) pe_str (nomark _))
    (pss_one (ps_ret (pe_call (ok_plain_at S) (hr.mono (by decide)) rfl S.plain_at.m S.plain_at.F.kp S.plain_at.b .nil (passes_call (takes_of rfl rfl rfl rfl) (fun _ _ _ _ h => h)) (pa_cons (pv 0) (pa_cons (pv 1) pa_nil)))))
    pss_nil)
  (pss_cons (ps_if (pt_cmpR op_eq (pe_slice sl_str (pv 0) (po_some (pe_op op_add (pv 1) pe_int)) (po_some (pe_op op_add (pv 1) pe_int))) pe_str (nomark _))
    (pss_one (ps_raiseErr rfl S.e_ParseError hr (takes_of rfl rfl rfl rfl) (pa_cons (pe_op op_add (pv 1) pe_int) pa_nil)))
    pss_nil)
  (pss_cons (ps_asg (pe_call (ok_plain_at S) (hr.mono (by decide)) rfl S.plain_at.m S.plain_at.F.kp S.plain_at.b .nil (passes_call (takes_of rfl rfl rfl rfl) (fun _ _ _ _ h => h)) (pa_cons (pv 0) (pa_cons (pe_op op_add (pv 1) pe_int) pa_nil))) (pg_tup rfl (pgs_cons (pg_name (i := 2) sc_signed_at.nd rfl (Or.inl rfl)) (pgs_cons (pg_name (i := 3) sc_signed_at.nd rfl (Or.inl rfl)) pgs_nil))))
  (pss_one (ps_ret (pe_tup (pa_cons (pe_un un_neg (pv 2)) (pa_cons (pv 3) pa_nil)))))))), ?_⟩
    walk_at "sx"
    unfold sgn at k
    refine ⟨sz_of hl, fun c => ?_, fun c => ?_⟩
    · rw [if_neg c] at k
      refine ⟨l, i, rfl, hl, fun h => ?_, fun h => ?_⟩
      · rw [if_pos h] at k
        exact k
      · rw [if_neg h] at k
        exact k
    · rw [if_pos c] at k
      refine ⟨sz_of hl, fun d => ?_, fun d => ?_⟩
      · rw [if_pos (.inl d)] at k
        exact k.now
      · refine ⟨l, i + 1, rfl, hl, fun h => ?_, fun h p H1 e hp h1 => ?_⟩
        · rw [if_pos (.inr h)] at k
          exact k
        · rw [if_neg (fun z => z.elim d h)] at k
          walk_at "sx"
          refine unp h1 rfl ?_
          walk_at "sx"
          exact ⟨by decide, (k.go e).now⟩
def sp_require_end (S : Pg K mg) : Sp := fun vs H Q E => ∃ (l : List Nat) (i : Nat), vs = [tx l, .int i] ∧ l.length ≤ 100000 ∧ (i < l.length → errAt S i H E) ∧ (¬ i < l.length → Q .non H)
theorem ok_require_end (S : Pg K mg) : FnOk prog w K mg base (L2.CX prog w) 2 S.require_end.f S.require_end.fd ["text", "index"] (sp_require_end S) := by
  refine S.require_end.F.okX sc_require_end (fun vs H Q E h => ?_) (fun cdv A outer s H vs Q E hr h => ?_)
  · obtain ⟨l, i, rfl, _⟩ := h
    rfl
  · obtain ⟨l, i, rfl, hl, k1, k2⟩ := h
    refine ⟨_, (pss_one (ps_if (pt_cmpR op_lt (pv 1) (pe_callB call_len_str (by rfl) S.b_len (by decide +kernel) (pa_cons (pv 0) pa_nil)) (nomark _))
    (pss_one (ps_raiseErr rfl S.e_ParseError hr (takes_of rfl rfl rfl rfl) (pa_cons (pv 1) pa_nil)))
    pss_nil)), ?_⟩
    walk_at "sx"
    exact ⟨sz_of hl, fun c => (k1 c).now, k2⟩
def sp_term_at (S : Pg K mg) : Sp := fun vs H Q E => ∃ (l : List Nat) (i : Nat), vs = [tx l, .int i] ∧ l.length ≤ 100000 ∧
  match trm l i with
  | .error e => errAt S e H E
  | .ok (x, p, j) => ∀ a b H', Same H H' → H a = none → H' a = some (.tup [.ref b, .int ((j : Nat) : Int)]) → H' b = some (.tup [.int x, .int p]) → Q (.ref a) H'
theorem ok_term_at (S : Pg K mg) : FnOk prog w K mg base (L2.CX prog w) 3 S.term_at.f S.term_at.fd ["text", "index"] (sp_term_at S) := by
  refine S.term_at.F.okX sc_term_at (fun vs H Q E h => ?_) (fun cdv A outer s H vs Q E hr h => ?_)
  · obtain ⟨l, i, rfl, _⟩ := h
    rfl
  · obtain ⟨l, i, rfl, hl, k⟩ := h
    refine ⟨_, (pss_cons (ps_set (i := 2) sc_term_at.nd rfl (Or.inl rfl) pe_int)
  (pss_cons (ps_if (pt_cmpR op_ne (pe_slice sl_str (pv 0) (po_some (pv 1)) (po_some (pe_op op_add (pv 1) pe_int))) pe_str (nomark _))
    (pss_one (ps_asg (pe_call (ok_plain_at S) (hr.mono (by decide)) rfl S.plain_at.m S.plain_at.F.kp S.plain_at.b .nil (passes_call (takes_of rfl rfl rfl rfl) (fun _ _ _ _ h => h)) (pa_cons (pv 0) (pa_cons (pv 1) pa_nil))) (pg_tup rfl (pgs_cons (pg_name (i := 2) sc_term_at.nd rfl (Or.inl rfl)) (pgs_cons (pg_name (i := 1) sc_term_at.nd rfl (Or.inl rfl)) pgs_nil)))))
    pss_nil)
  (pss_cons (ps_asg (pe_call (ok_plain_at S) (hr.mono (by decide)) rfl S.plain_at.m S.plain_at.F.kp S.plain_at.b .nil (passes_call (takes_of rfl rfl rfl rfl) (fun _ _ _ _ h => h)) (pa_cons (pv 0) (pa_cons (pe_call (ok_require_sign S) (hr.mono (by decide)) rfl S.require_sign.m S.require_sign.F.kp S.require_sign.b .nil (passes_call (takes_of rfl rfl rfl rfl) (fun _ _ _ _ h => h)) (pa_cons (pv 0) (pa_cons (pv 1) (pa_cons pe_str pa_nil)))) pa_nil))) (pg_tup rfl (pgs_cons (pg_name (i := 3) sc_term_at.nd rfl (Or.inl rfl)) (pgs_cons (pg_name (i := 1) sc_term_at.nd rfl (Or.inl rfl)) pgs_nil))))
  (pss_one (ps_ret (pe_tup (pa_cons (pe_tup (pa_cons (pv 2) (pa_cons (pv 3) pa_nil))) (pa_cons (pe_call (ok_require_sign S) (hr.mono (by decide)) rfl S.require_sign.m S.require_sign.F.kp S.require_sign.b .nil (passes_call (takes_of rfl rfl rfl rfl) (fun _ _ _ _ h => h)) (pa_cons (pv 0) (pa_cons (pv 1) (pa_cons pe_str pa_nil)))) pa_nil)))))))), ?_⟩
    walk_at "sx"
    -- behind the number: the bracket, the place, the bracket
    have two : ∀ (x : Int) (j : Nat) (H0 : Hp), Same H H0 → (match trm2 l x j with
      | .error e => errAt S e H E
      | .ok (x, p, j) => ∀ a b H', Same H H' → H a = none → H' a = some (.tup [.ref b, .int ((j : Nat) : Int)]) → H' b = some (.tup [.int x, .int p]) → Q (.ref a) H') → ∀ Q2 : V → Hp → Prop, (∀ (y : Int) (k : Nat) p H1, Same H0 H1 → H1 p = some (.tup [.int y, .int (k : Nat)]) → (l[k]? = some 93 → ∀ a b H', Same H1 H' → H1 a = none → H' a = some (.tup [.ref b, .int ((k + 1 : Nat) : Int)]) → H' b = some (.tup [.int x, .int y]) → Q (.ref a) H') → (l[k]? ≠ some 93 → errAt S k H1 E) → Q2 (.ref p) H1) → sp_require_sign S [tx l, .int (j : Nat), .str ⟨#[91]⟩] H0 (fun x H1 => sp_plain_at S [tx l, x] H1 Q2 E) E := by
      intro x j H0 e0 kk Q2 q2
      unfold trm2 at kk
      refine ⟨l, j, 91, rfl, hl, fun c => ?_, fun c => ?_⟩
      · rw [if_pos c] at kk
        refine ⟨l, j + 1, rfl, hl, fun h => ?_, fun h p H1 e hp h1 => ?_⟩
        · rw [if_pos h] at kk
          exact kk.go e0
        · rw [if_neg h] at kk
          refine q2 _ _ p H1 e h1 (fun c2 => ?_) fun c2 => ?_
          · rw [if_pos c2] at kk
            exact fun a b H' e' ha h2 h3 => kk a b H' ((e0.trans e).trans e') ((e0.trans e).free ha) h2 h3
          · rw [if_neg c2] at kk
            exact kk.go (e0.trans e)
      · rw [if_neg c] at kk
        exact kk.go e0
    have fin : ∀ (x y : Int) (k : Nat) (H1 : Hp), (l[k]? = some 93 → ∀ a b H', Same H1 H' → H1 a = none → H' a = some (.tup [.ref b, .int ((k + 1 : Nat) : Int)]) → H' b = some (.tup [.int x, .int y]) → Q (.ref a) H') → (l[k]? ≠ some 93 → errAt S k H1 E) →
        2 ≤ sizeLine ∧ ∀ p, H1 p = none → sp_require_sign S [tx l, .int (k : Nat), .str ⟨#[93]⟩] (upd H1 p (.tup [.int x, .int y])) (fun z H2 => 2 ≤ sizeLine ∧ ∀ q, H2 q = none → Q (.ref q) (upd H2 q (.tup [.ref p, z]))) E := by
      intro x y k H1 k1 k2
      refine ⟨by decide, fun p hp => ⟨l, k, 93, rfl, hl, fun c => ⟨by decide, fun q hq => k1 c q p _ ((Same.new hp).trans (Same.new hq)) ((Same.new hp).free hq) upd_same (by rw [upd_ne (ne_of_none upd_same hq), upd_same])⟩, fun c => (k2 c).go (Same.new hp)⟩⟩
    unfold trm at k
    refine ⟨sz_of hl, fun c => ?_, fun c => ?_⟩
    · rw [if_neg c] at k
      refine ⟨l, i, rfl, hl, fun h => ?_, fun h p H1 e hp h1 => ?_⟩
      · rw [if_pos h] at k
        exact k
      · rw [if_neg h] at k
        walk_at "sx"
        refine unp h1 rfl ?_
        walk_at "sx"
        refine two (num l i) (i + figs l i) H1 e k _ fun y j p2 H2 e2 h2 k1 k2 => ?_
        walk_at "sx"
        refine unp h2 rfl ?_
        walk_at "sx"
        exact fin _ y j H2 k1 k2
    · rw [if_pos c] at k
      refine two 1 i H (Same.refl H) k _ fun y j p2 H2 e2 h2 k1 k2 => ?_
      walk_at "sx"
      refine unp h2 rfl ?_
      walk_at "sx"
      exact fin _ y j H2 k1 k2
end
end Tx

set_option maxRecDepth 100000
set_option maxHeartbeats 2000000
namespace Tx
open PySem PySem.Spec PyProof.Rows L2
local macro_rules | `(tactic| walk_at "sx") => `(tactic| simp only [cxK, tSeq, tIfS, tTest, tOp, tUn, tSl, tVar, tPart, tNoPart, tC, tRet, tRetN, tNext, tAsg, tPar, tPar3, tAug, tDrop, tB, tAnd, tOr, tNot, tAndV, tOrV, tNotV, tIf, tChain, tCons, tNil, tTup, tLst, tCall, tCB, tBM, tBM0, gName, gCons, gNil, gTup, rNe, rEq, rI0, rI, rU, rSlS, ipI, tRaiseErr, tMkErr, rAppend, tLstRg, tRg1, tRg2, L2.start, List.map_cons, List.map_nil, List.length_cons, List.length_nil, List.cons_append, List.nil_append, List.append_nil, List.getElem?_cons_zero, List.getElem?_cons_succ, List.set_cons_zero, List.set_cons_succ, Option.some.injEq, V.int.injEq, V.str.injEq, V.bl.injEq, V.ref.injEq, List.cons.injEq, exists_eq_left, exists_eq_left', exists_eq_right', exists_and_left, exists_and_right, true_and, and_true, Nat.reduceAdd, Nat.reduceSub, Nat.zero_add, List.replicate_zero, List.replicate_succ, ite_d, ite_nd, ite_b, scal, len_tx, tl_tx, eq_tx, app_tx, cut_nat, cut_to, cut_from, cut_t1, cut_t2, cut_t3, one_at, none_at, two_at, take1, take2, dr0, dr1, forall_eq', forall_eq, nc1, nc2, nc3, nca, Int.natCast_pos, Int.natCast_eq_zero, Bool.not_eq_true', Bool.not_eq_false', decide_eq_true_eq, decide_eq_false_iff_not, Bool.not_true, Bool.not_false, Decidable.not_not, WE, ex2, ex3, Nat.add_sub_add_left, Int.ofNat_lt, Int.natCast_inj, if_true, if_false, Bool.true_eq_false, Bool.false_eq_true, eq_self_iff_true, Nat.add_sub_cancel_left, Nat.add_sub_cancel, imp_false, not_false_eq_true, not_true_eq_false, forall_const, exists_and_self, reduceCtorEq, false_and, and_false, exists_false, List.cons_ne_nil, wipe, List.foldr_cons, List.foldr_nil, List.foldl_cons, List.foldl_nil, tYes, tCKw, tM1, gSub, tAugS, lit_e, lit_10, lit_32, lit_32_32, lit_32_43_32, lit_32_43_32_91_49_93, lit_32_45_32, lit_40, lit_40_41, lit_40_41_40_41, lit_40_48_32_49, lit_40_48_32_49_41, lit_40_48_32_49_41_40_50_32_49_41, lit_40_48_41, lit_41, lit_43, lit_44, lit_44_44, lit_44_51, lit_45, lit_45_48, lit_45_48_91_49_93, lit_48, lit_48_48, lit_48_49, lit_48_49_50_51_52_53_54_55_56_57, lit_49, lit_49_44_44_50, lit_50, lit_50_91_48_93_32_43_91_49_93, lit_57, lit_91, lit_91_48_49_93, lit_91_48_93, lit_91_50_93, lit_93, lit_107_105_110_100_115, lit_109_111_118_101, lit_112_97_114_115_101, lit_114_111_119, lit_116_111_108_100, lit_120])
local macro_rules | `(tactic| walk_at "sl") => `(tactic| simp only [lit_e, lit_10, lit_32, lit_32_32, lit_32_43_32, lit_32_43_32_91_49_93, lit_32_45_32, lit_40, lit_40_41, lit_40_41_40_41, lit_40_48_32_49, lit_40_48_32_49_41, lit_40_48_32_49_41_40_50_32_49_41, lit_40_48_41, lit_41, lit_43, lit_44, lit_44_44, lit_44_51, lit_45, lit_45_48, lit_45_48_91_49_93, lit_48, lit_48_48, lit_48_49, lit_48_49_50_51_52_53_54_55_56_57, lit_49, lit_49_44_44_50, lit_50, lit_50_91_48_93_32_43_91_49_93, lit_57, lit_91, lit_91_48_49_93, lit_91_48_93, lit_91_50_93, lit_93, lit_107_105_110_100_115, lit_109_111_118_101, lit_112_97_114_115_101, lit_114_111_119, lit_116_111_108_100, lit_120])
section
variable {w : World} {K : PySem.W.Frag} {mg : Str → Option Value} {base : Heap}
structure CycI (l : List Nat) (i : Nat) (H : Hp) (f : Addr) (m : Nat) (σ : L2.St) (H' : Hp) : Prop where
  ex : ∃ (acc : List Int) (j : Nat) (v : V), Same H H' ∧ H f = none ∧ H' f = some (.lst (acc.map V.int)) ∧ 1 ≤ acc.length ∧ acc.length ≤ j ∧ j ≤ l.length ∧ m = l.length - j ∧ cyc l (i + 1) [] = aft l j acc ∧
            σ = [some (tx l), some (.int (j : Nat)), some v, some (.ref f)]
def sp_cycle_at (S : Pg K mg) : Sp := fun vs H Q E => ∃ (l : List Nat) (i : Nat), vs = [tx l, .int i] ∧ l.length ≤ 100000 ∧
  match cyc1 l i with
  | .error e => errAt S e H E
  | .ok (c, j) => ∀ a b H', Same H H' → H a = none → H' a = some (.tup [.ref b, .int ((j : Nat) : Int)]) → H' b = some (.tup (c.map V.int)) → Q (.ref a) H'
theorem ok_cycle_at (S : Pg K mg) : FnOk prog w K mg base (L2.CX prog w) 3 S.cycle_at.f S.cycle_at.fd ["text", "index"] (sp_cycle_at S) := by
  refine S.cycle_at.F.okX sc_cycle_at (fun vs H Q E h => ?_) (fun cdv A outer s H vs Q E hr h => ?_)
  · obtain ⟨l, i, rfl, _⟩ := h
    rfl
  · obtain ⟨l, i, rfl, hl, k⟩ := h
    refine ⟨_, (pss_cons (ps_asg (pe_call (ok_plain_at S) (hr.mono (by decide)) rfl S.plain_at.m S.plain_at.F.kp S.plain_at.b .nil (passes_call (takes_of rfl rfl rfl rfl) (fun _ _ _ _ h => h)) (pa_cons (pv 0) (pa_cons (pe_call (ok_require_sign S) (hr.mono (by decide)) rfl S.require_sign.m S.require_sign.F.kp S.require_sign.b .nil (passes_call (takes_of rfl rfl rfl rfl) (fun _ _ _ _ h => h)) (pa_cons (pv 0) (pa_cons (pv 1) (pa_cons pe_str pa_nil)))) pa_nil))) (pg_tup rfl (pgs_cons (pg_name (i := 2) sc_cycle_at.nd rfl (Or.inl rfl)) (pgs_cons (pg_name (i := 1) sc_cycle_at.nd rfl (Or.inl rfl)) pgs_nil))))
  (pss_cons (ps_set (i := 3) sc_cycle_at.nd rfl (Or.inl rfl) (pe_lst (pa_cons (pv 2) pa_nil)))
  (pss_cons (ps_while (passes_of rfl) (PW.pt (pw_or (pt_cmpR op_lt (pe_callB call_len_seq (by rfl) S.b_len (by decide +kernel) (pa_cons (pv 3) pa_nil)) pe_int (nomark _)) (pw_or1 (pt_cmpR op_eq (pe_slice sl_str (pv 0) (po_some (pv 1)) (po_some (pe_op op_add (pv 1) pe_int))) pe_str (nomark _)))))
    (pss_cons (ps_asg (pe_call (ok_plain_at S) (hr.mono (by decide)) rfl S.plain_at.m S.plain_at.F.kp S.plain_at.b .nil (passes_call (takes_of rfl rfl rfl rfl) (fun _ _ _ _ h => h)) (pa_cons (pv 0) (pa_cons (pe_call (ok_require_sign S) (hr.mono (by decide)) rfl S.require_sign.m S.require_sign.F.kp S.require_sign.b .nil (passes_call (takes_of rfl rfl rfl rfl) (fun _ _ _ _ h => h)) (pa_cons (pv 0) (pa_cons (pv 1) (pa_cons pe_str pa_nil)))) pa_nil))) (pg_tup rfl (pgs_cons (pg_name (i := 2) sc_cycle_at.nd rfl (Or.inl rfl)) (pgs_cons (pg_name (i := 1) sc_cycle_at.nd rfl (Or.inl rfl)) pgs_nil))))
    (pss_one (ps_expr (pe_bm PySem.F.plainAttrs_list PySem.F.slot_list_append PySem.F.type_list_append mt_append (pv 3) (pa_cons (pv 2) pa_nil))))))
  (pss_one (ps_ret (pe_tup (pa_cons (pe_callTy call_tuple_of (by rfl) S.b_tuple (by decide +kernel) (pa_cons (pv 3) pa_nil)) (pa_cons (pe_call (ok_require_sign S) (hr.mono (by decide)) rfl S.require_sign.m S.require_sign.F.kp S.require_sign.b .nil (passes_call (takes_of rfl rfl rfl rfl) (fun _ _ _ _ h => h)) (pa_cons (pv 0) (pa_cons (pv 1) (pa_cons pe_str pa_nil)))) pa_nil)))))))), ?_⟩
    walk_at "sx"
    unfold cyc1 at k
    refine ⟨l, i, 40, rfl, hl, fun c => ?_, fun c => ?_⟩
    · rw [if_pos c] at k
      refine ⟨l, i + 1, rfl, hl, fun h => ?_, fun h p H1 e hp h1 => ?_⟩
      · rw [cyc_zero h] at k
        exact k
      · walk_at "sx"
        refine unp h1 rfl ?_
        walk_at "sx"
        refine ⟨by decide, fun f hf => ?_⟩
        refine ⟨CycI l i H f, ⟨_, ⟨[num l (i + 1)], i + 1 + figs l (i + 1), _, e.trans (Same.new hf), e.free hf, upd_same, by simp, by simp; omega, by have := figs_le h; omega, rfl, cyc_pos h, rfl⟩⟩, ?_⟩
        rintro m σ H' ⟨acc, j, v, e2, hf0, hff, ha1, ha2, hj, rfl, hc, rfl⟩
        rw [hc] at k
        walk_at "sx"
        refine ⟨_, .inl (SqL.of hff), ?_⟩
        rw [List.length_map]
        -- one more place, behind a blank
        have more : ∀ (Q2 : Hp → L2.St → Prop), (∀ (j2 : Nat) (x : Int) H3, Same H H3 → H3 f = some (.lst ((acc ++ [x]).map V.int)) → aft l j acc = aft l j2 (acc ++ [x]) → j < j2 → j2 ≤ l.length → Q2 H3 [some (tx l), some (.int (j2 : Nat)), some (.int x), some (.ref f)]) → l[j]? = some 32 ∨ acc.length < 2 →
            sp_require_sign S [tx l, .int (j : Nat), .str ⟨#[32]⟩] H' (fun x H1 => sp_plain_at S [tx l, x] H1 (fun x H1 => ∃ a, x = .ref a ∧ ∃ x, SqT K H1 a x ∧ x.length = 2 ∧ ∃ v r, x = v :: r ∧ ∃ v_1 r_1, r = v_1 :: r_1 ∧ r_1 = [] ∧ tyV K "list" (.ref f) H1 ∧ ∃ x, H1 f = some (.lst x) ∧ x.length < sizeLine ∧ Q2 (upd H1 f (.lst (x ++ [v]))) [some (tx l), some v_1, some v, some (.ref f)]) E) E := by
          intro Q2 q2 hb
          refine ⟨l, j, 32, rfl, hl, fun c => ?_, fun c => ?_⟩
          · have ea : aft l j acc = cyc l (j + 1) acc := by
              unfold aft
              rw [c, if_neg (fun z => absurd z.1 (by decide)), if_pos rfl]
            rw [ea] at k
            refine ⟨l, j + 1, rfl, hl, fun h => ?_, fun h p3 H3 e3 hp3 h3 => ?_⟩
            · rw [cyc_zero h] at k
              exact k.go e2
            · refine ⟨p3, rfl, ?_⟩
              refine unp h3 rfl ?_
              refine ⟨_, _, rfl, _, _, rfl, rfl, ?_⟩
              have hff3 := e3 _ _ hff
              have hin := figs_in h
              refine app_of hff3 (by rw [List.length_map]; omega) ?_
              exact q2 (j + 1 + figs l (j + 1)) (num l (j + 1)) (upd H3 f (.lst (acc.map V.int ++ [.int (num l (j + 1))]))) (Same.mut (e2.trans e3) hf0) (by rw [upd_same, List.map_append]; rfl) (by rw [ea, cyc_pos h]) (by omega) (figs_le h)
          · have ea : aft l j acc = .error j := by
              unfold aft
              rw [if_neg (fun z => ?_), if_neg c]
              rcases hb with hb | hb
              · exact c hb
              · exact absurd z.2 (by omega)
            rw [ea] at k
            exact k.go e2
        have done : acc.length ≥ 2 → l[j]? ≠ some 32 → ∃ x, (SqL K H' f x ∧ (∀ q, H' q = none → sp_require_sign S [tx l, .int (j : Nat), .str ⟨#[41]⟩] (upd H' q (.tup x)) (fun z H2 => 2 ≤ sizeLine ∧ ∀ a, H2 a = none → Q (.ref a) (upd H2 a (.tup [.ref q, z]))) E) ∨ SqT K H' f x ∧ sp_require_sign S [tx l, .int (j : Nat), .str ⟨#[41]⟩] H' (fun z H2 => 2 ≤ sizeLine ∧ ∀ a, H2 a = none → Q (.ref a) (upd H2 a (.tup [.ref f, z]))) E) := by
          intro h2 hn
          refine ⟨_, .inl ⟨SqL.of hff, fun q hq => ⟨l, j, 41, rfl, hl, fun c => ?_, fun c => ?_⟩⟩⟩
          · have ea : aft l j acc = .ok (acc, j + 1) := by
              unfold aft
              rw [if_pos ⟨c, h2⟩]
            rw [ea] at k
            refine ⟨by decide, fun a ha => k a q _ ((e2.trans (Same.new hq)).trans (Same.new ha)) ((e2.trans (Same.new hq)).free ha) upd_same (by rw [upd_ne (ne_of_none upd_same ha), upd_same])⟩
          · have ea : aft l j acc = .error j := by
              unfold aft
              rw [if_neg (fun z => c z.1), if_neg hn]
            rw [ea] at k
            exact k.go (e2.trans (Same.new hq))
        have next : ∀ (j2 : Nat) (x : Int) H3, Same H H3 → H3 f = some (.lst ((acc ++ [x]).map V.int)) → aft l j acc = aft l j2 (acc ++ [x]) → j < j2 → j2 ≤ l.length → ∃ m', m' < l.length - j ∧ CycI l i H f m' [some (tx l), some (.int (j2 : Nat)), some (.int x), some (.ref f)] H3 :=
          fun j2 x H3 e3 h3 ec lt le => ⟨_, by omega, ⟨_, _, _, e3, hf0, h3, by simp, by simp; omega, le, rfl, hc.trans ec, rfl⟩⟩
        refine ⟨fun hlt => ⟨_, fun _ _ h => h, more (fun H3 σ => ∃ m', m' < l.length - j ∧ CycI l i H f m' σ H3) next (.inr (by omega))⟩, fun hge => ⟨sz_of hl, fun c => ⟨_, fun _ _ h => h, more (fun H3 σ => ∃ m', m' < l.length - j ∧ CycI l i H f m' σ H3) next (.inl c)⟩, fun c => done (by omega) c⟩⟩
    · rw [if_neg c] at k
      exact k
structure CysI (l : List Nat) (i : Nat) (H : Hp) (f : Addr) (m : Nat) (σ : L2.St) (H' : Hp) : Prop where
  ex : ∃ (rs : List V) (cs : List (List Int)) (j : Nat) (v : V), Same H H' ∧ H f = none ∧ H' f = some (.lst rs) ∧ Tups H' rs cs ∧ cs.length ≤ j ∧ j ≤ l.length ∧ m = l.length - j ∧
    cycs l i [] = (if l[j]? = some 40 then cycs l j cs else .ok (cs, j)) ∧ σ = [some (tx l), some (.int (j : Nat)), some v, some (.ref f)]
/-- the cycles that cs tells stand in a new list, in a new pair -/
def okCys (H : Hp) (Q : VK) (cs : List (List Int)) (j : Nat) : Prop := ∀ a b H' rs, Same H H' → H a = none → H b = none → H' a = some (.tup [.ref b, .int ((j : Nat) : Int)]) → H' b = some (.lst rs) → Tups H' rs cs → Q (.ref a) H'
def sp_cycles_at (S : Pg K mg) : Sp := fun vs H Q E => ∃ (l : List Nat) (i : Nat), vs = [tx l, .int i] ∧ l.length ≤ 100000 ∧
  match cycsAt l i with
  | .error e => errAt S e H E
  | .ok (cs, j) => okCys H Q cs j
theorem ok_cycles_at (S : Pg K mg) : FnOk prog w K mg base (L2.CX prog w) 4 S.cycles_at.f S.cycles_at.fd ["text", "index"] (sp_cycles_at S) := by
  refine S.cycles_at.F.okX sc_cycles_at (fun vs H Q E h => ?_) (fun cdv A outer s H vs Q E hr h => ?_)
  · obtain ⟨l, i, rfl, _⟩ := h
    rfl
  · obtain ⟨l, i, rfl, hl, k⟩ := h
    refine ⟨_, (pss_cons (ps_if (pt_cmpR op_eq (pe_slice sl_str (pv 0) (po_some (pv 1)) (po_some (pe_op op_add (pv 1) pe_int))) (pe_glob (v := .str "()") rfl S.g_UNIT ⟨_, rfl⟩) (nomark _))
    (pss_one (ps_ret (pe_tup (pa_cons (pe_lst pa_nil) (pa_cons (pe_op op_add (pv 1) pe_int) pa_nil)))))
    pss_nil)
  (pss_cons (ps_asg (pe_call (ok_cycle_at S) (hr.mono (by decide)) rfl S.cycle_at.m S.cycle_at.F.kp S.cycle_at.b .nil (passes_call (takes_of rfl rfl rfl rfl) (fun _ _ _ _ h => h)) (pa_cons (pv 0) (pa_cons (pv 1) pa_nil))) (pg_tup rfl (pgs_cons (pg_name (i := 2) sc_cycles_at.nd rfl (Or.inl rfl)) (pgs_cons (pg_name (i := 1) sc_cycles_at.nd rfl (Or.inl rfl)) pgs_nil))))
  (pss_cons (ps_set (i := 3) sc_cycles_at.nd rfl (Or.inl rfl) (pe_lst (pa_cons (pv 2) pa_nil)))
  (pss_cons (ps_while (passes_of rfl) (pt_cmpR op_eq (pe_slice sl_str (pv 0) (po_some (pv 1)) (po_some (pe_op op_add (pv 1) pe_int))) pe_str (nomark _))
    (pss_cons (ps_asg (pe_call (ok_cycle_at S) (hr.mono (by decide)) rfl S.cycle_at.m S.cycle_at.F.kp S.cycle_at.b .nil (passes_call (takes_of rfl rfl rfl rfl) (fun _ _ _ _ h => h)) (pa_cons (pv 0) (pa_cons (pv 1) pa_nil))) (pg_tup rfl (pgs_cons (pg_name (i := 2) sc_cycles_at.nd rfl (Or.inl rfl)) (pgs_cons (pg_name (i := 1) sc_cycles_at.nd rfl (Or.inl rfl)) pgs_nil))))
    (pss_one (ps_expr (pe_bm PySem.F.plainAttrs_list PySem.F.slot_list_append PySem.F.type_list_append mt_append (pv 3) (pa_cons (pv 2) pa_nil))))))
  (pss_one (ps_ret (pe_tup (pa_cons (pv 3) (pa_cons (pv 1) pa_nil))))))))), ?_⟩
    walk_at "sx"
    unfold cycsAt at k
    refine ⟨sz_of hl, fun c => ?_, fun c => ?_⟩
    · rw [if_pos c] at k
      exact ⟨Nat.zero_le _, fun b hb => ⟨by decide, fun a ha => k a b _ [] ((Same.new hb).trans (Same.new ha)) ((Same.new hb).free ha) hb upd_same (by rw [upd_ne (ne_of_none upd_same ha), upd_same]) .nil⟩⟩
    · rw [if_neg c] at k
      refine ⟨l, i, rfl, hl, ?_⟩
      cases e1 : cyc1 l i with
      | error e =>
        rw [cycs_err e1] at k
        exact k
      | ok y =>
        obtain ⟨c1, j1⟩ := y
        obtain ⟨q1, q2, q3, q4, q5⟩ := cyc1_ok e1
        intro a b H1 e h0 h1 h2
        walk_at "sx"
        refine unp h1 rfl ?_
        walk_at "sx"
        refine ⟨by decide, fun f hf => ?_⟩
        refine ⟨CysI l i H f, ⟨_, ⟨[.ref b], [c1], j1, _, e.trans (Same.new hf), e.free hf, upd_same, .cons ⟨b, rfl, by rw [upd_ne (ne_of_none h2 hf)]; exact h2⟩ .nil, by simp; omega, q3, rfl, cycs_go e1, rfl⟩⟩, ?_⟩
        rintro m σ H' ⟨rs, cs, j, v, e2, hf0, hff, ht, hcl, hj, rfl, hc, rfl⟩
        rw [hc] at k
        walk_at "sx"
        refine ⟨sz_of hl, fun c2 => ?_, fun c2 => ?_⟩
        · rw [if_pos c2] at k hc
          refine ⟨_, fun _ _ h => h, l, j, rfl, hl, ?_⟩
          cases e3 : cyc1 l j with
          | error e =>
            rw [cycs_err e3] at k
            exact k.go e2
          | ok y =>
            obtain ⟨c3, j3⟩ := y
            obtain ⟨r1, r2, r3, r4, r5⟩ := cyc1_ok e3
            intro a3 b3 H3 e4 h3 h4 h5
            walk_at "sx"
            refine unp h4 rfl ?_
            walk_at "sx"
            have hff3 := e4 _ _ hff
            have hlr : rs.length = cs.length := Paired.length ht
            refine app_of hff3 (by omega) ?_
            refine ⟨l.length - j3, by omega, ⟨rs ++ [.ref b3], cs ++ [c3], j3, _, Same.mut (e2.trans e4) hf0, hf0, upd_same, ?_, by simp; omega, r3, rfl, ?_, rfl⟩⟩
            · exact PySem.Paired.snoc (Tups.mut (ht.go e4) hff3) ⟨b3, rfl, by rw [upd_ne (ne_of h5 hff3 (by intro z; cases z))]; exact h5⟩
            · rw [hc, cycs_go e3]
        · rw [if_neg c2] at k
          exact ⟨by decide, fun a ha => k a f _ rs (e2.trans (Same.new ha)) (e2.free ha) hf0 upd_same (by rw [upd_ne (ne_of_none hff ha)]; exact hff) (ht.go (Same.new ha))⟩
end
end Tx

set_option maxRecDepth 100000
set_option maxHeartbeats 2000000
namespace Tx
open PySem PySem.Spec PyProof.Rows L2
local macro_rules | `(tactic| walk_at "sx") => `(tactic| simp only [cxK, tSeq, tIfS, tTest, tOp, tUn, tSl, tVar, tPart, tNoPart, tC, tRet, tRetN, tNext, tAsg, tPar, tPar3, tAug, tDrop, tB, tAnd, tOr, tNot, tAndV, tOrV, tNotV, tIf, tChain, tCons, tNil, tTup, tLst, tCall, tCB, tBM, tBM0, gName, gCons, gNil, gTup, rNe, rEq, rI0, rI, rU, rSlS, ipI, tRaiseErr, tMkErr, rAppend, tLstRg, tRg1, tRg2, L2.start, List.map_cons, List.map_nil, List.length_cons, List.length_nil, List.cons_append, List.nil_append, List.append_nil, List.getElem?_cons_zero, List.getElem?_cons_succ, List.set_cons_zero, List.set_cons_succ, Option.some.injEq, V.int.injEq, V.str.injEq, V.bl.injEq, V.ref.injEq, List.cons.injEq, exists_eq_left, exists_eq_left', exists_eq_right', exists_and_left, exists_and_right, true_and, and_true, Nat.reduceAdd, Nat.reduceSub, Nat.zero_add, List.replicate_zero, List.replicate_succ, ite_d, ite_nd, ite_b, scal, len_tx, tl_tx, eq_tx, app_tx, cut_nat, cut_to, cut_from, cut_t1, cut_t2, cut_t3, one_at, none_at, two_at, take1, take2, dr0, dr1, forall_eq', forall_eq, nc1, nc2, nc3, nca, Int.natCast_pos, Int.natCast_eq_zero, Bool.not_eq_true', Bool.not_eq_false', decide_eq_true_eq, decide_eq_false_iff_not, Bool.not_true, Bool.not_false, Decidable.not_not, WE, ex2, ex3, Nat.add_sub_add_left, Int.ofNat_lt, Int.natCast_inj, if_true, if_false, Bool.true_eq_false, Bool.false_eq_true, eq_self_iff_true, Nat.add_sub_cancel_left, Nat.add_sub_cancel, imp_false, not_false_eq_true, not_true_eq_false, forall_const, exists_and_self, reduceCtorEq, false_and, and_false, exists_false, List.cons_ne_nil, wipe, List.foldr_cons, List.foldr_nil, List.foldl_cons, List.foldl_nil, tYes, tCKw, tM1, gSub, tAugS, lit_e, lit_10, lit_32, lit_32_32, lit_32_43_32, lit_32_43_32_91_49_93, lit_32_45_32, lit_40, lit_40_41, lit_40_41_40_41, lit_40_48_32_49, lit_40_48_32_49_41, lit_40_48_32_49_41_40_50_32_49_41, lit_40_48_41, lit_41, lit_43, lit_44, lit_44_44, lit_44_51, lit_45, lit_45_48, lit_45_48_91_49_93, lit_48, lit_48_48, lit_48_49, lit_48_49_50_51_52_53_54_55_56_57, lit_49, lit_49_44_44_50, lit_50, lit_50_91_48_93_32_43_91_49_93, lit_57, lit_91, lit_91_48_49_93, lit_91_48_93, lit_91_50_93, lit_93, lit_107_105_110_100_115, lit_109_111_118_101, lit_112_97_114_115_101, lit_114_111_119, lit_116_111_108_100, lit_120])
local macro_rules | `(tactic| walk_at "sl") => `(tactic| simp only [lit_e, lit_10, lit_32, lit_32_32, lit_32_43_32, lit_32_43_32_91_49_93, lit_32_45_32, lit_40, lit_40_41, lit_40_41_40_41, lit_40_48_32_49, lit_40_48_32_49_41, lit_40_48_32_49_41_40_50_32_49_41, lit_40_48_41, lit_41, lit_43, lit_44, lit_44_44, lit_44_51, lit_45, lit_45_48, lit_45_48_91_49_93, lit_48, lit_48_48, lit_48_49, lit_48_49_50_51_52_53_54_55_56_57, lit_49, lit_49_44_44_50, lit_50, lit_50_91_48_93_32_43_91_49_93, lit_57, lit_91, lit_91_48_49_93, lit_91_48_93, lit_91_50_93, lit_93, lit_107_105_110_100_115, lit_109_111_118_101, lit_112_97_114_115_101, lit_114_111_119, lit_116_111_108_100, lit_120])
section
variable {w : World} {K : PySem.W.Frag} {mg : Str → Option Value} {base : Heap}
def sp_require_text : Sp := fun vs H Q _ => ∃ l : List Nat, vs = [tx l] ∧ l.length ≤ 3000 ∧ Q .non H
theorem ok_require_text (S : Pg K mg) : FnOk prog w K mg base CX0 2 S.require_text.f S.require_text.fd ["value"] sp_require_text := by
  refine S.require_text.F.ok sc_require_text (fun vs H Q E h => ?_) (fun cdv A outer s H vs Q E hr h => ?_)
  · obtain ⟨l, rfl, _⟩ := h
    rfl
  · obtain ⟨l, rfl, hl, k⟩ := h
    refine ⟨_, (pss_one (ps_if (PW.pt (pw_or (pt_not (pt_val (pe_callB call_isi (by rfl) S.b_isinstance (by decide +kernel) (pa_cons (pv 0) (pa_cons (pe_bltn (v := .ty "str") (u := .type "str") (by rfl) S.b_str (by decide +kernel) rfl) pa_nil))))) (pw_or1 (pt_cmpR op_gt (pe_callB call_len_str (by rfl) S.b_len (by decide +kernel) (pa_cons (pv 0) pa_nil)) (pe_glob (v := .int 3000) rfl S.g_MOST_SIGNS ⟨_, rfl⟩) (nomark _)))))
    (pss_one ps_never)
    pss_nil)), ?_⟩
    walk_at "sx"
    refine isi_of (b := true) ty_str (by decide +kernel) ?_
    walk_at "sx"
    exact ⟨sz_of (by omega), fun c => absurd c (by omega), fun _ => k⟩
def errOwn (C : Addr) (H : Hp) (E : XK) : Prop := ∀ H', Same H H' → E (.ref C) none H'
structure RowI (l : List Nat) (H : Hp) (f : Addr) (m : Nat) (σ : L2.St) (H' : Hp) : Prop where
  ex : ∃ (acc : List Int) (j : Nat) (v : V), Same H H' ∧ H f = none ∧ H' f = some (.lst (acc.map V.int)) ∧ acc.length ≤ j ∧ j ≤ l.length ∧ m = l.length - j ∧
    row l 0 [] = (if l[j]? = some 44 then row l (j + 1) acc else if j < l.length then .error j else .ok acc) ∧ σ = [some (tx l), some v, some (.int (j : Nat)), some (.ref f)]
def sp_read_row (S : Pg K mg) : Sp := fun vs H Q E => ∃ l : List Nat, vs = [tx l] ∧ l.length ≤ 3000 ∧
  match row l 0 [] with
  | .error e => errAt S e H E
  | .ok xs => if 60 < xs.length then errOwn S.x_InvalidRow.C H E else okTup H Q (xs.map V.int)
theorem ok_read_row (S : Pg K mg) : FnOk prog w K mg base (L2.CX prog w) 4 S.read_row.f S.read_row.fd ["text"] (sp_read_row S) := by
  refine S.read_row.F.okX sc_read_row (fun vs H Q E h => ?_) (fun cdv A outer s H vs Q E hr h => ?_)
  · obtain ⟨l, rfl, _⟩ := h
    rfl
  · obtain ⟨l, rfl, hl, k⟩ := h
    refine ⟨_, (pss_cons (ps_expr (pe_call (ok_require_text S) (hr.mono (by decide)) rfl S.require_text.m S.require_text.F.kp S.require_text.b .nil pass0 (pa_cons (pv 0) pa_nil)))
  (pss_cons (ps_asg (pe_call (ok_signed_at S) (hr.mono (by decide)) rfl S.signed_at.m S.signed_at.F.kp S.signed_at.b .nil (passes_call (takes_of rfl rfl rfl rfl) (fun _ _ _ _ h => h)) (pa_cons (pv 0) (pa_cons pe_int pa_nil))) (pg_tup rfl (pgs_cons (pg_name (i := 1) sc_read_row.nd rfl (Or.inl rfl)) (pgs_cons (pg_name (i := 2) sc_read_row.nd rfl (Or.inl rfl)) pgs_nil))))
  (pss_cons (ps_set (i := 3) sc_read_row.nd rfl (Or.inl rfl) (pe_lst (pa_cons (pv 1) pa_nil)))
  (pss_cons (ps_while (passes_of rfl) (pt_cmpR op_eq (pe_slice sl_str (pv 0) (po_some (pv 2)) (po_some (pe_op op_add (pv 2) pe_int))) pe_str (nomark _))
    (pss_cons (ps_asg (pe_call (ok_signed_at S) (hr.mono (by decide)) rfl S.signed_at.m S.signed_at.F.kp S.signed_at.b .nil (passes_call (takes_of rfl rfl rfl rfl) (fun _ _ _ _ h => h)) (pa_cons (pv 0) (pa_cons (pe_op op_add (pv 2) pe_int) pa_nil))) (pg_tup rfl (pgs_cons (pg_name (i := 1) sc_read_row.nd rfl (Or.inl rfl)) (pgs_cons (pg_name (i := 2) sc_read_row.nd rfl (Or.inl rfl)) pgs_nil))))
    (pss_one (ps_expr (pe_bm PySem.F.plainAttrs_list PySem.F.slot_list_append PySem.F.type_list_append mt_append (pv 3) (pa_cons (pv 1) pa_nil))))))
  (pss_cons (ps_expr (pe_call (ok_require_end S) (hr.mono (by decide)) rfl S.require_end.m S.require_end.F.kp S.require_end.b .nil (passes_call (takes_of rfl rfl rfl rfl) (fun _ _ _ _ h => h)) (pa_cons (pv 0) (pa_cons (pv 2) pa_nil))))
  (pss_cons (ps_if (pt_cmpR op_gt (pe_callB call_len_seq (by rfl) S.b_len (by decide +kernel) (pa_cons (pv 3) pa_nil)) (pe_glob (v := .int 60) rfl S.g_MOST_MEMBERS ⟨_, rfl⟩) (nomark _))
    (pss_one (ps_raise rfl (takes_of rfl rfl rfl rfl) (pmk_own PySem.F.excBase_ValueError S.x_InvalidRow.x S.x_InvalidRow.g S.x_InvalidRow.k (raises_own S.x_InvalidRow.b S.x_InvalidRow.t) rfl)))
    pss_nil)
  (pss_one (ps_ret (pe_callTy call_tuple_of (by rfl) S.b_tuple (by decide +kernel) (pa_cons (pv 3) pa_nil)))))))))), ?_⟩
    walk_at "sx"
    refine ⟨l, rfl, hl, ?_⟩
    walk_at "sx"
    refine ⟨l, 0, rfl, by omega, ?_⟩
    cases e1 : sgn l 0 with
    | error e =>
      rw [row_err e1] at k
      exact k
    | ok y =>
      obtain ⟨x1, j1⟩ := y
      obtain ⟨q1, q2⟩ := sgn_ok e1
      intro p H1 e hp h1
      walk_at "sx"
      refine unp h1 rfl ?_
      walk_at "sx"
      refine ⟨by decide, fun f hf => ?_⟩
      refine ⟨RowI l H f, ⟨_, ⟨[x1], j1, _, e.trans (Same.new hf), e.free hf, upd_same, by simp; omega, q2, rfl, row_go e1, rfl⟩⟩, ?_⟩
      rintro m σ H' ⟨acc, j, v, e2, hf0, hff, hcl, hj, rfl, hc, rfl⟩
      rw [hc] at k
      walk_at "sx"
      refine ⟨sz_of (by omega), fun c2 => ?_, fun c2 => ?_⟩
      · rw [if_pos c2] at k hc
        refine ⟨_, fun _ _ h => h, l, j + 1, rfl, by omega, ?_⟩
        cases e3 : sgn l (j + 1) with
        | error e =>
          rw [row_err e3] at k
          exact k.go e2
        | ok y =>
          obtain ⟨x3, j3⟩ := y
          obtain ⟨r1, r2⟩ := sgn_ok e3
          intro p3 H3 e4 h3 h4
          walk_at "sx"
          refine unp h4 rfl ?_
          walk_at "sx"
          have hff3 := e4 _ _ hff
          refine app_of hff3 (by rw [List.length_map]; omega) ⟨l.length - j3, by omega, ⟨acc ++ [x3], j3, _, Same.mut (e2.trans e4) hf0, hf0, by rw [upd_same, List.map_append]; rfl, by simp; omega, r2, rfl, hc.trans (row_go e3), rfl⟩⟩
      · rw [if_neg c2] at k
        refine ⟨l, j, rfl, by omega, fun c3 => ?_, fun c3 => ?_⟩
        · rw [if_pos c3] at k
          exact k.go e2
        · rw [if_neg c3] at k
          refine ⟨_, .inl (SqL.of hff), ?_⟩
          rw [List.length_map]
          dsimp only at k
          refine ⟨fun h60 => ?_, fun h60 => ⟨_, .inl ⟨SqL.of hff, ?_⟩⟩⟩
          · rw [if_pos (by omega)] at k
            exact k _ e2
          · rw [if_neg (by omega)] at k
            exact (k.go e2).now
/-- the terms stand in a new list -/
def okTerms (H : Hp) (Q : VK) (ts : List (Int × Int)) : Prop := ∀ a H' rs, Same H H' → H a = none → H' a = some (.lst rs) → Tups H' rs (ts.map fun t => [t.1, t.2]) → Q (.ref a) H'
structure TerI (l : List Nat) (H : Hp) (f : Addr) (R : Except Nat (List (Int × Int))) (m : Nat) (σ : L2.St) (H' : Hp) : Prop where
  ex : ∃ (rs : List V) (ts : List (Int × Int)) (j : Nat) (v1 v2 v3 : V), Same H H' ∧ H f = none ∧ H' f = some (.lst rs) ∧ Tups H' rs (ts.map fun t => [t.1, t.2]) ∧ ts.length ≤ j ∧ j ≤ l.length ∧ m = l.length - j ∧
    R = aftT l j ts ∧ σ = [some (tx l), some v1, some (.int (j : Nat)), some v2, some v3, some (.ref f)]
def sp_terms_at (S : Pg K mg) : Sp := fun vs H Q E => ∃ l : List Nat, vs = [tx l] ∧ l.length ≤ 3000 ∧
  match termsOf l with
  | .error e => errAt S e H E
  | .ok ts => okTerms H Q ts
theorem ok_terms_at (S : Pg K mg) : FnOk prog w K mg base (L2.CX prog w) 4 S.terms_at.f S.terms_at.fd ["text"] (sp_terms_at S) := by
  refine S.terms_at.F.okX sc_terms_at (fun vs H Q E h => ?_) (fun cdv A outer s H vs Q E hr h => ?_)
  · obtain ⟨l, rfl, _⟩ := h
    rfl
  · obtain ⟨l, rfl, hl, k⟩ := h
    refine ⟨_, (Evl.pss_cut (ps_asg (pe_ifExp (pt_cmpR op_eq (pe_slice sl_str (pv 0) po_none (po_some pe_int)) pe_str (nomark _)) (pe_tup (pa_cons (pe_un un_neg pe_int) (pa_cons pe_int pa_nil))) (pe_tup (pa_cons pe_int (pa_cons pe_int pa_nil)))) (pg_tup rfl (pgs_cons (pg_name (i := 1) sc_terms_at.nd rfl (Or.inl rfl)) (pgs_cons (pg_name (i := 2) sc_terms_at.nd rfl (Or.inl rfl)) pgs_nil))))
  (pss_cons (ps_if (pt_cmpR op_eq (pe_slice sl_str (pv 0) po_none (po_some pe_int)) pe_str (nomark _))
    (pss_one (ps_raiseErr rfl S.e_ParseError hr (takes_of rfl rfl rfl rfl) (pa_cons pe_int pa_nil)))
    pss_nil)
  (pss_cons (ps_asg (pe_call (ok_term_at S) (hr.mono (by decide)) rfl S.term_at.m S.term_at.F.kp S.term_at.b .nil (passes_call (takes_of rfl rfl rfl rfl) (fun _ _ _ _ h => h)) (pa_cons (pv 0) (pa_cons (pv 2) pa_nil))) (pg_tup rfl (pgs_cons (pg_tup rfl (pgs_cons (pg_name (i := 3) sc_terms_at.nd rfl (Or.inl rfl)) (pgs_cons (pg_name (i := 4) sc_terms_at.nd rfl (Or.inl rfl)) pgs_nil))) (pgs_cons (pg_name (i := 2) sc_terms_at.nd rfl (Or.inl rfl)) pgs_nil))))
  (pss_cons (ps_set (i := 5) sc_terms_at.nd rfl (Or.inl rfl) (pe_lst (pa_cons (pe_tup (pa_cons (pe_op op_mul (pv 1) (pv 3)) (pa_cons (pv 4) pa_nil))) pa_nil)))
  (pss_cons (ps_while (passes_of rfl) (pt_cmpR op_lt (pv 2) (pe_callB call_len_str (by rfl) S.b_len (by decide +kernel) (pa_cons (pv 0) pa_nil)) (nomark _))
    (pss_cons (ps_set (i := 2) sc_terms_at.nd rfl (Or.inl rfl) (pe_call (ok_require_sign S) (hr.mono (by decide)) rfl S.require_sign.m S.require_sign.F.kp S.require_sign.b .nil (passes_call (takes_of rfl rfl rfl rfl) (fun _ _ _ _ h => h)) (pa_cons (pv 0) (pa_cons (pv 2) (pa_cons pe_str pa_nil)))))
    (pss_cons (ps_if (pt_cmpR op_notIn_seq (pe_slice sl_str (pv 0) (po_some (pv 2)) (po_some (pe_op op_add (pv 2) pe_int))) (pe_tup (pa_cons pe_str (pa_cons pe_str pa_nil))) rfl)
      (pss_one (ps_raiseErr rfl S.e_ParseError hr (takes_of rfl rfl rfl rfl) (pa_cons (pv 2) pa_nil)))
      pss_nil)
    (Evl.pss_cut (ps_set (i := 1) sc_terms_at.nd rfl (Or.inl rfl) (pe_ifExp (pt_cmpR op_eq (pe_ix ix_str (pv 0) (pv 2) (fun _ _ => rfl)) pe_str (nomark _)) pe_int (pe_un un_neg pe_int)))
    (pss_cons (ps_asg (pe_call (ok_term_at S) (hr.mono (by decide)) rfl S.term_at.m S.term_at.F.kp S.term_at.b .nil (passes_call (takes_of rfl rfl rfl rfl) (fun _ _ _ _ h => h)) (pa_cons (pv 0) (pa_cons (pe_call (ok_require_sign S) (hr.mono (by decide)) rfl S.require_sign.m S.require_sign.F.kp S.require_sign.b .nil (passes_call (takes_of rfl rfl rfl rfl) (fun _ _ _ _ h => h)) (pa_cons (pv 0) (pa_cons (pe_op op_add (pv 2) pe_int) (pa_cons pe_str pa_nil)))) pa_nil))) (pg_tup rfl (pgs_cons (pg_tup rfl (pgs_cons (pg_name (i := 3) sc_terms_at.nd rfl (Or.inl rfl)) (pgs_cons (pg_name (i := 4) sc_terms_at.nd rfl (Or.inl rfl)) pgs_nil))) (pgs_cons (pg_name (i := 2) sc_terms_at.nd rfl (Or.inl rfl)) pgs_nil))))
    (pss_one (ps_expr (pe_bm PySem.F.plainAttrs_list PySem.F.slot_list_append PySem.F.type_list_append mt_append (pv 5) (pa_cons (pe_tup (pa_cons (pe_op op_mul (pv 1) (pv 3)) (pa_cons (pv 4) pa_nil))) pa_nil)))))))))
  (pss_one (ps_ret (pv 5)))))))), ?_⟩
    refine ⟨fun σ' H' => Same H H' ∧ ((l[0]? = some 45 ∧ σ' = [some (tx l), some (.int (-1)), some (.int ((1 : Nat) : Int)), none, none, none]) ∨ (l[0]? ≠ some 45 ∧ σ' = [some (tx l), some (.int 1), some (.int ((0 : Nat) : Int)), none, none, none])), ?_, ?_⟩
    · walk_at "sx"
      refine ⟨sz_of (by omega), fun c => ⟨by decide, fun p hp => unp upd_same rfl ?_⟩, fun c => ⟨by decide, fun p hp => unp upd_same rfl ?_⟩⟩
      · exact ⟨_, _, rfl, _, _, rfl, rfl, Same.new hp, .inl ⟨c, rfl, rfl⟩⟩
      · exact ⟨_, _, rfl, _, _, rfl, rfl, Same.new hp, .inr ⟨c, rfl, rfl⟩⟩
    rintro σ' H0 ⟨e0, hσ⟩
    have hs : ∃ (sg : Int) (i : Nat), σ' = [some (tx l), some (.int sg), some (.int (i : Nat)), none, none, none] ∧ (sg = 1 ∨ sg = -1) ∧ i ≤ 1 ∧ (¬ (l[0]? = some 45 ∧ l[1]? = some 48) → termsOf l = trms l sg i []) := by
      rcases hσ with ⟨c, h⟩ | ⟨c, h⟩
      · refine ⟨-1, 1, h, .inr rfl, by omega, fun z => ?_⟩
        unfold termsOf
        rw [if_pos c, if_neg (fun y => z ⟨c, y⟩)]
      · refine ⟨1, 0, h, .inl rfl, by omega, fun z => ?_⟩
        unfold termsOf
        rw [if_neg c]
    obtain ⟨sg, i, rfl, hsg, hi, ht⟩ := hs
    walk_at "sx"
    refine ⟨sz_of (by omega), fun c => ?_, fun c => ?_⟩
    · have e1 : termsOf l = .error 1 := by
        unfold termsOf
        rw [if_pos c.1, if_pos c.2]
      rw [e1] at k
      exact (k.go e0).now
    rw [ht c] at k
    refine ⟨l, i, rfl, by omega, ?_⟩
    cases e1 : trm l i with
    | error e =>
      rw [trms_err e1] at k
      exact k.go e0
    | ok y =>
      obtain ⟨x1, p1, j1⟩ := y
      obtain ⟨q1, q2, q3⟩ := trm_ok e1
      intro a b H1 e h0 h1 h2
      walk_at "sx"
      refine unp h1 rfl ?_
      walk_at "sx"
      refine unp h2 rfl ?_
      walk_at "sx"
      refine ⟨cmul1 hsg, by decide, fun t ht1 => ⟨by decide, fun f hf => ?_⟩⟩
      have e2 : Same H (upd (upd H1 t (.tup [.int (sg * x1), .int p1])) f (.lst [.ref t])) := ((e0.trans e).trans (Same.new ht1)).trans (Same.new hf)
      rw [trms_go e1] at k
      refine ⟨TerI l H f (aftT l j1 [(sg * x1, p1)]), ⟨_, ⟨[.ref t], [(sg * x1, p1)], j1, _, _, _, e2, ((e0.trans e).trans (Same.new ht1)).free hf, upd_same, .cons ⟨t, rfl, by rw [upd_ne (ne_of_none upd_same hf), upd_same]; rfl⟩ .nil, by simp; omega, q2, rfl, rfl, rfl⟩⟩, ?_⟩
      rintro m σ H' ⟨rs, ts, j, v1, v2, v3, e3, hf0, hff, hts, hcl, hj, rfl, hc, rfl⟩
      simp only [List.nil_append] at k
      rw [hc] at k
      walk_at "sx"
      refine ⟨sz_of (by omega), fun c1 => ?_, fun c1 => ?_⟩
      · refine ⟨_, fun _ _ h => h, ?_⟩
        unfold aftT at k
        rw [if_pos c1] at k
        refine ⟨l, j, 32, rfl, by omega, fun c2 => ?_, fun c2 => ?_⟩
        · rw [if_neg (fun z => z c2)] at k
          walk_at "sx"
          refine ⟨sz_of (by omega), by decide, fun q hq => notIn2 upd_same ?_⟩
          walk_at "sx"
          have e4 : Same H (upd H' q (.tup [tx [43], tx [45]])) := e3.trans (Same.new hq)
          refine ⟨fun c3 => ?_, fun c3 => ?_⟩
          · rw [if_neg c3] at k
            exact (k.go e4).now
          · rw [if_pos c3] at k
            have hff4 : upd H' q (.tup [tx [43], tx [45]]) f = some (.lst rs) := Same.new hq _ _ hff
            have hts4 : Tups (upd H' q (.tup [tx [43], tx [45]])) rs (ts.map fun t => [t.1, t.2]) := hts.go (Same.new hq)
            generalize upd H' q (.tup [tx [43], tx [45]]) = H4 at e4 hff4 hts4
            refine ⟨fun σ' H5 => H5 = H4 ∧ σ' = [some (tx l), some (.int (if l[j + 1]? = some 43 then 1 else -1)), some (.int ((j + 1 : Nat) : Int)), some v2, some v3, some (.ref f)], ?_, ?_⟩
            · walk_at "sx"
              rcases c3 with c4 | c4
              · refine ixS_of (by omega) c4 ?_
                walk_at "sx"
                rw [if_pos c4]
                exact ⟨rfl, fun h => h.elim⟩
              · refine ixS_of (by omega) c4 ?_
                walk_at "sx"
                rw [c4]
                exact ⟨fun h => absurd h (by decide), fun _ => by decide⟩
            · rintro σ' H5 ⟨rfl, rfl⟩
              have hsg2 : (if l[j + 1]? = some 43 then (1 : Int) else -1) = 1 ∨ (if l[j + 1]? = some 43 then (1 : Int) else -1) = -1 := by
                split
                · exact .inl rfl
                · exact .inr rfl
              walk_at "sx"
              refine ⟨l, j + 2, 32, rfl, by omega, fun c5 => ?_, fun c5 => ?_⟩
              · rw [if_pos c5] at k
                refine ⟨l, j + 3, rfl, by omega, ?_⟩
                cases e6 : trm l (j + 3) with
                | error e =>
                  rw [trms_err e6] at k
                  exact k.go e4
                | ok y =>
                  obtain ⟨x7, p7, j7⟩ := y
                  obtain ⟨r1, r2, r3⟩ := trm_ok e6
                  intro a7 b7 H7 e7 h7 h8 h9
                  walk_at "sx"
                  refine unp h8 rfl ?_
                  walk_at "sx"
                  refine unp h9 rfl ?_
                  walk_at "sx"
                  have hff7 := e7 _ _ hff4
                  have hlr : rs.length = ts.length := by
                    have z := Paired.length hts4
                    rw [List.length_map] at z
                    exact z
                  refine ⟨Or.inl ⟨rfl, _, Or.inl (Or.inl hff7)⟩, cmul1 hsg2, by decide, fun t7 ht7 => ?_⟩
                  have nf : f ≠ t7 := ne_of_none hff7 ht7
                  have hff8 : ∀ o, upd H7 t7 o f = some (.lst rs) := fun o => by rw [upd_ne nf]; exact hff7
                  refine ⟨rs, hff8 _, sz_lt (by omega), l.length - j7, by omega, ⟨rs ++ [.ref t7], ts ++ [((if l[j + 1]? = some 43 then 1 else -1) * x7, p7)], j7, _, _, _, Same.mut ((e4.trans e7).trans (Same.new ht7)) hf0, hf0, upd_same, ?_, by simp; omega, r2, rfl, ?_, rfl⟩⟩
                  · rw [List.map_append]
                    exact PySem.Paired.snoc (Tups.mut ((hts4.go e7).go (Same.new ht7)) (hff8 _)) ⟨t7, rfl, by rw [upd_ne (Ne.symm nf), upd_same]; rfl⟩
                  · rw [hc]
                    unfold aftT
                    rw [if_pos c1, if_neg (fun z => z c2), if_pos c3, if_pos c5, trms_go e6]
                    rfl
              · rw [if_neg c5] at k
                exact k.go e4
        · rw [if_pos c2] at k
          exact k.go e3
      · unfold aftT at k
        rw [if_neg c1] at k
        exact k f H' rs e3 hf0 hff hts
def sp_is_within : Sp := fun vs H Q _ => ∃ i a b : Int, vs = [.int i, .int a, .int b] ∧ Q (.bl (decide (a ≤ i ∧ i ≤ b))) H
theorem ok_is_within (S : Pg K mg) : FnOk prog w K mg base CX0 2 S.is_within.f S.is_within.fd ["value", "low", "high"] sp_is_within := by
  refine S.is_within.F.ok sc_is_within (fun vs H Q E h => ?_) (fun cdv A outer s H vs Q E hr h => ?_)
  · obtain ⟨i, a, b, rfl, _⟩ := h
    rfl
  · obtain ⟨i, a, b, rfl, k⟩ := h
    refine ⟨_, (pss_one (ps_ret (pe_and (pe_call (ok_is_plain S) (hr.mono (by decide)) rfl S.is_plain.m S.is_plain.F.kp S.is_plain.b .nil pass0 (pa_cons (pv 0) pa_nil)) (pe_one (pe_chain op_le op_le (pv 1) (pv 0) (pv 2)))))), ?_⟩
    walk_at "sx"
    refine ⟨i, rfl, ?_⟩
    walk_at "sx"
    refine ⟨⟨fun h => ?_, fun h => ?_⟩, fun h => h.elim⟩
    · have e : decide (a ≤ i ∧ i ≤ b) = decide (i ≤ b) := decide_eq_decide.mpr ⟨fun z => z.2, fun z => ⟨h, z⟩⟩
      rw [e] at k
      exact k
    · have e : decide (a ≤ i ∧ i ≤ b) = false := decide_eq_false fun z => h z.1
      rw [e] at k
      exact k
def sp_require_within : Sp := fun vs H Q _ => ∃ i a b : Int, vs = [.int i, .int a, .int b] ∧ (a ≤ i ∧ i ≤ b) ∧ Q .non H
theorem ok_require_within (S : Pg K mg) : FnOk prog w K mg base CX0 3 S.require_within.f S.require_within.fd ["value", "low", "high"] sp_require_within := by
  refine S.require_within.F.ok sc_require_within (fun vs H Q E h => ?_) (fun cdv A outer s H vs Q E hr h => ?_)
  · obtain ⟨i, a, b, rfl, _⟩ := h
    rfl
  · obtain ⟨i, a, b, rfl, hb, k⟩ := h
    refine ⟨_, (pss_one (ps_if (pt_not (pt_val (pe_call (ok_is_within S) (hr.mono (by decide)) rfl S.is_within.m S.is_within.F.kp S.is_within.b .nil pass0 (pa_cons (pv 0) (pa_cons (pv 1) (pa_cons (pv 2) pa_nil))))))
    (pss_one ps_never)
    pss_nil)), ?_⟩
    walk_at "sx"
    refine ⟨i, a, b, rfl, ?_⟩
    rw [decide_eq_true hb]
    walk_at "sx"
    exact k
def sp_is_integer : Sp := fun vs H Q _ => ∃ i : Int, vs = [.int i] ∧ Q (.bl (decide (-(10 ^ 60) < i ∧ i < 10 ^ 60))) H
theorem ok_is_integer (S : Pg K mg) : FnOk prog w K mg base CX0 2 S.is_integer.f S.is_integer.fd ["value"] sp_is_integer := by
  refine S.is_integer.F.ok sc_is_integer (fun vs H Q E h => ?_) (fun cdv A outer s H vs Q E hr h => ?_)
  · obtain ⟨i, rfl, _⟩ := h
    rfl
  · obtain ⟨i, rfl, k⟩ := h
    refine ⟨_, (pss_one (ps_ret (pe_and (pe_call (ok_is_plain S) (hr.mono (by decide)) rfl S.is_plain.m S.is_plain.F.kp S.is_plain.b .nil pass0 (pa_cons (pv 0) pa_nil)) (pe_one (pe_chain op_lt op_lt (pe_un un_neg (pe_glob (v := .int (10 ^ 60)) rfl S.g_FAR ⟨_, rfl⟩)) (pv 0) (pe_glob (v := .int (10 ^ 60)) rfl S.g_FAR ⟨_, rfl⟩)))))), ?_⟩
    walk_at "sx"
    refine ⟨i, rfl, ?_⟩
    walk_at "sx"
    refine ⟨⟨fun h => ?_, fun h => ?_⟩, fun h => h.elim⟩
    · have e : decide (-(10 ^ 60) < i ∧ i < 10 ^ 60) = decide (i < 10 ^ 60) := decide_eq_decide.mpr ⟨fun z => z.2, fun z => ⟨h, z⟩⟩
      rw [e] at k
      exact k
    · have e : decide (-(10 ^ 60) < i ∧ i < 10 ^ 60) = false := decide_eq_false fun z => h z.1
      rw [e] at k
      exact k
end
end Tx

set_option maxRecDepth 100000
set_option maxHeartbeats 2000000
/-! Loops and comprehensions over what stays. -/
namespace Tx
open PySem PySem.Spec PyProof.Rows L2
theorem sz_lt' {n : Nat} (h : n ≤ 100000) : n < sizeLine := Nat.lt_of_le_of_lt h (by decide)
theorem pget {α β : Type} {R : α → β → Prop} : ∀ {xs : List α} {ys : List β} {i : Nat} {x : α}, Paired R xs ys → xs[i]? = some x → ∃ y, ys[i]? = some y ∧ R x y
  | _, _, _, _, .nil, h => by simp at h
  | _, _, 0, _, .cons r t, h => ⟨_, rfl, by
    have := Option.some.inj h
    subst this
    exact r⟩
  | _, _, i + 1, _, .cons r t, h => pget (i := i) t h
/-- what J yields where P holds -/
structure ItOf (P : Hp → Prop) (J : It) (xs : List V) : Prop where
  stop : ∀ H, P H → J.stop xs.length H
  go : ∀ i H, i < xs.length → P H → J.go i H
  yld : ∀ i H x H', P H → i < xs.length → J.yld i H x H' → H' = H ∧ xs[i]? = some x
theorem itT {K : PySem.W.Frag} {a : Addr} {xs : List V} : ItOf (fun H => SqT K H a xs) (Itt K a) xs where
  stop := fun H h => ⟨xs, h, Nat.le_refl _⟩
  go := fun i H hi h => ⟨xs, xs[i], h, by simp [hi]⟩
  yld := fun i H x H' h hi y => ⟨y.1, y.2 xs h⟩
theorem itL {K : PySem.W.Frag} {a : Addr} {xs : List V} : ItOf (fun H => SqL K H a xs) (Itl K a) xs where
  stop := fun H h => ⟨xs, h, Nat.le_refl _⟩
  go := fun i H hi h => ⟨xs, xs[i], h, by simp [hi]⟩
  yld := fun i H x H' h hi y => ⟨y.1, y.2 xs h⟩
theorem itR {lo : Int} {n : Nat} : ItOf (fun _ => True) (Itr lo n) ((List.range n).map fun i => V.int (lo + (i : Nat))) where
  stop := fun H h => by show n ≤ _; rw [List.length_map, List.length_range]; exact Nat.le_refl _
  go := fun i H hi h => by rw [List.length_map, List.length_range] at hi; exact hi
  yld := fun i H x H' h hi y => by
    rw [List.length_map, List.length_range] at hi
    refine ⟨y.1, ?_⟩
    rw [List.getElem?_map, List.getElem?_range hi, y.2]
    rfl
section
variable {P : Hp → Prop} {J : It} {xs : List V} {wi : TI} {σ : L2.St} {H : Hp}
theorem for_it {g : TG} {tb : TS} {D : Ends} (hi : ∀ R : It → Hp → Prop, R J H → wi σ H R) (hJ : ItOf P J xs) (Pv : Nat → L2.St → Hp → Prop) (h0 : Pv 0 σ H) (hP : ∀ i σ H, i ≤ xs.length → Pv i σ H → P H)
    (hs : ∀ i x σ H, xs[i]? = some x → Pv i σ H → g x σ H fun σ2 H2 => tb { D with nx := Pv (i + 1), ct := Pv (i + 1), bk := D.nx } σ2 H2) (hd : ∀ σ H, Pv xs.length σ H → D.nx σ H) : tFor wi g tb D σ H := by
  refine hi _ ⟨fun i m σ H => m = xs.length - i ∧ i ≤ xs.length ∧ Pv i σ H, ⟨xs.length, by simp, Nat.zero_le _, h0⟩, ?_⟩
  rintro i m σ H ⟨rfl, hi, p⟩
  by_cases hlt : i < xs.length
  · refine .inr ⟨hJ.go i H hlt (hP i σ H hi p), Pv (i + 1), fun σ' H' p' => ⟨xs.length - (i + 1), by omega, rfl, hlt, p'⟩, fun x H' y => ?_⟩
    obtain ⟨e1, e2⟩ := hJ.yld i H x H' (hP i σ H hi p) hlt y
    subst e1
    exact hs i x _ _ e2 p
  · have e : i = xs.length := by omega
    subst e
    exact .inl ⟨hJ.stop _ (hP _ σ H hi p), hd σ H p⟩
/-- over enumerate(t), t a tuple that stays -/
theorem for_en {K : PySem.W.Frag} {g : TG} {tb : TS} {D : Ends} {a : Addr} (hi : ∀ R : It → Hp → Prop, R (IteT K a) H → wi σ H R) (Pv : Nat → L2.St → Hp → Prop) (h0 : Pv 0 σ H) (hl : ∀ i σ H, i ≤ xs.length → Pv i σ H → SqT K H a xs)
    (hs : ∀ i x T σ H, xs[i]? = some x → H T = none → Pv i σ H → g (.ref T) σ (upd H T (.tup [.int (i : Nat), x])) fun σ2 H2 => tb { D with nx := Pv (i + 1), ct := Pv (i + 1), bk := D.nx } σ2 H2) (hd : ∀ σ H, Pv xs.length σ H → D.nx σ H) : tFor wi g tb D σ H :=
  hi _ (for_enumT Pv h0 hl hs hd)
/-- a list comprehension over what stays: A i what is there before turn i -/
theorem lc_it {g : TG} {tt : TT} {te : TE} {vs : List Nat} {Q : VK} (hi : ∀ R : It → Hp → Prop, R J H → wi σ H R) (hJ : ItOf P J xs) (hP : ∀ H', Same H H' → P H') (A : Nat → List V) (hA0 : A 0 = []) (hAl : ∀ i, i < xs.length → (A i).length ≤ 100000)
    (hs : ∀ i x H' (Ny : VK) (Nn : Hp → Prop), xs[i]? = some x → Same H H' → (∀ y H4, Same H' H4 → A (i + 1) = A i ++ [y] → Ny y H4) → (∀ H3, Same H' H3 → A (i + 1) = A i → Nn H3) →
      g x (wipe σ vs) H' fun σ2 H2 => wipe σ2 vs = wipe σ vs ∧ tt σ2 H2 fun b H3 => if b = true then te σ2 H3 Ny else Nn H3)
    (q : ∀ D H', H D = none → Same H H' → H' D = some (.lst (A xs.length)) → Q (.ref D) H') : tLc wi g tt te vs σ H Q := by
  refine hi _ fun D hD => ⟨fun i m H' => m = xs.length - i ∧ i ≤ xs.length ∧ Same H H' ∧ H' D = some (.lst (A i)), ⟨xs.length, by simp, Nat.zero_le _, Same.new hD, by rw [hA0, upd_same]⟩, ?_⟩
  rintro i m H' ⟨rfl, hi, e, hd⟩
  by_cases hlt : i < xs.length
  · refine .inr ⟨hJ.go i H' hlt (hP H' e), fun H2 => Same H H2 ∧ H2 D = some (.lst (A (i + 1))), fun H2 p' => ⟨xs.length - (i + 1), by omega, rfl, hlt, p'⟩, fun x H2 y => ?_⟩
    obtain ⟨e1, e2⟩ := hJ.yld i H' x H2 (hP H' e) hlt y
    subst e1
    refine hs i x _ (fun y H4 => ∃ acc, H4 D = some (.lst acc) ∧ acc.length < sizeLine ∧ (Same H (upd H4 D (.lst (acc ++ [y]))) ∧ (upd H4 D (.lst (acc ++ [y]))) D = some (.lst (A (i + 1))))) _ e2 e (fun y H4 s1 h => ?_) (fun H3 s1 h => ?_)
    · exact ⟨A i, s1 _ _ hd, Nat.lt_of_le_of_lt (hAl i hlt) (by decide), Same.mut (e.trans s1) hD, by rw [h, upd_same]⟩
    · exact ⟨e.trans s1, by rw [h]; exact s1 _ _ hd⟩
  · have ei : i = xs.length := by omega
    subst ei
    exact .inl ⟨hJ.stop _ (hP _ e), q D H' hD e hd⟩
/-- [f x for x in ..] -/
theorem lc_map {te : TE} {j : Nat} {Q : VK} (f : V → V) (hi : ∀ R : It → Hp → Prop, R J H → wi σ H R) (hJ : ItOf P J xs) (hP : ∀ H', Same H H' → P H') (hl : xs.length ≤ 100000)
    (hs : ∀ x H' (Ny : VK), x ∈ xs → Same H H' → (∀ H4, Same H' H4 → Ny (f x) H4) → te ((wipe σ [j]).set j (some x)) H' Ny)
    (q : ∀ D H', H D = none → Same H H' → H' D = some (.lst (xs.map f)) → Q (.ref D) H') : tLc wi (gName j) tYes te [j] σ H Q := by
  refine lc_it hi hJ hP (fun i => (xs.take i).map f) rfl (fun i h => by rw [List.length_map, List.length_take]; omega) (fun i x H' Ny Nn hx e hy hn => ?_) (fun D H' hD e h => q D H' hD e (by rw [List.take_length] at h; exact h))
  refine ⟨?_, ?_⟩
  · show ((σ.set j none).set j (some x)).set j none = σ.set j none
    rw [List.set_set, List.set_set]
  · show te ((wipe σ [j]).set j (some x)) H' Ny
    refine hs x H' Ny (List.mem_of_getElem? hx) e fun H4 e4 => hy _ H4 e4 ?_
    rw [List.take_succ, hx, List.map_append]
    rfl
/-- [x for x in .. if p x] -/
theorem lc_filter {tt : TT} {j : Nat} {Q : VK} (p : V → Bool) (hi : ∀ R : It → Hp → Prop, R J H → wi σ H R) (hJ : ItOf P J xs) (hP : ∀ H', Same H H' → P H') (hl : xs.length ≤ 100000) (hj : j < σ.length)
    (hs : ∀ x H' (N : Bool → Hp → Prop), x ∈ xs → Same H H' → (∀ H4, Same H' H4 → N (p x) H4) → tt ((wipe σ [j]).set j (some x)) H' N)
    (q : ∀ D H', H D = none → Same H H' → H' D = some (.lst (xs.filter p)) → Q (.ref D) H') : tLc wi (gName j) tt (tVar j) [j] σ H Q := by
  refine lc_it hi hJ hP (fun i => (xs.take i).filter p) rfl (fun i h => Nat.le_trans (List.length_filter_le _ _) (by rw [List.length_take]; omega)) (fun i x H' Ny Nn hx e hy hn => ?_) (fun D H' hD e h => q D H' hD e (by rw [List.take_length] at h; exact h))
  have ta : (xs.take (i + 1)).filter p = (xs.take i).filter p ++ if p x = true then [x] else [] := by
    rw [List.take_succ, hx, List.filter_append]
    congr 1
    show List.filter p [x] = _
    cases h : p x <;> simp [h]
  refine ⟨?_, ?_⟩
  · show ((σ.set j none).set j (some x)).set j none = σ.set j none
    rw [List.set_set, List.set_set]
  · refine hs x H' _ (List.mem_of_getElem? hx) e fun H4 e4 => ?_
    cases h : p x with
    | false =>
      rw [if_neg (by decide)]
      rw [h, if_neg (by decide), List.append_nil] at ta
      exact hn H4 e4 ta
    | true =>
      rw [if_pos rfl]
      rw [h, if_pos rfl] at ta
      exact ⟨x, by rw [List.getElem?_set_self (by rw [wipe_length]; exact hj)], hy x H4 e4 ta⟩
/-- [x for c in .. for x in c], each c a tuple of integers -/
theorem lc_flat {K : PySem.W.Frag} {j1 j2 : Nat} {Q : VK} {cs : List (List Int)} (hi : ∀ R : It → Hp → Prop, R J H → wi σ H R) (hJ : ItOf P J xs) (hP : ∀ H', Same H H' → P H') (ht : Tups H xs cs) (hl : cs.flatten.length ≤ 100000) (h1 : j1 < σ.length) (h2 : j2 < σ.length) (hne : j1 ≠ j2)
    (q : ∀ D H', H D = none → Same H H' → H' D = some (.lst (cs.flatten.map V.int)) → Q (.ref D) H') : tLc2 wi (gName j1) tYes (iTup K (tVar j1)) (gName j2) tYes (tVar j2) [j1, j2] [j2] σ H Q := by
  have hlen : xs.length = cs.length := Paired.length ht
  refine hi _ fun D hD => ⟨fun i m H' => m = xs.length - i ∧ i ≤ xs.length ∧ Same H H' ∧ H' D = some (.lst ((cs.take i).flatten.map V.int)), ⟨xs.length, by simp, Nat.zero_le _, Same.new hD, by rw [upd_same]; rfl⟩, ?_⟩
  rintro i m H' ⟨rfl, hi, e, hd⟩
  by_cases hlt : i < xs.length
  · refine .inr ⟨hJ.go i H' hlt (hP H' e), fun H2 => Same H H2 ∧ H2 D = some (.lst ((cs.take (i + 1)).flatten.map V.int)), fun H2 p' => ⟨xs.length - (i + 1), by omega, rfl, hlt, p'⟩, fun x H2 y => ?_⟩
    obtain ⟨e1, e2⟩ := hJ.yld i H' x H2 (hP H' e) hlt y
    subst e1
    obtain ⟨c, hc, a, rfl, ha⟩ := Tx.pget ht e2
    have hs1 : ((wipe σ [j1, j2]).set j1 (some (V.ref a)))[j1]? = some (some (V.ref a)) := List.getElem?_set_self (by rw [wipe_length]; exact h1)
    have hlf : ∀ j, j ≤ c.length → ((cs.take i).flatten ++ c.take j).length ≤ cs.flatten.length := fun j hj => by
      have h3 : cs = cs.take i ++ c :: cs.drop (i + 1) := by
        have hi' : i < cs.length := by omega
        have ec : cs[i] = c := by
          have := List.getElem?_eq_getElem hi'
          rw [hc] at this
          exact (Option.some.inj this).symm
        rw [← ec, List.getElem_cons_drop, List.take_append_drop]
      have h4 : cs.flatten.length = ((cs.take i ++ c :: cs.drop (i + 1)).flatten).length := by rw [← h3]
      rw [h4, List.flatten_append, List.flatten_cons]
      simp only [List.length_append, List.length_take]
      omega
    refine ⟨?_, ?_⟩
    · show ((((σ.set j2 none).set j1 none).set j1 (some (V.ref a))).set j2 none).set j1 none = (σ.set j2 none).set j1 none
      rw [List.set_set, List.set_comm _ _ hne, List.set_set, List.set_set]
    · simp only [tYes, if_true]
      refine ⟨_, hs1, a, rfl, ⟨c.map V.int, .of (e _ _ ha)⟩, fun j k H' => k = c.length - j ∧ j ≤ c.length ∧ Same H H' ∧ H' D = some (.lst (((cs.take i).flatten ++ c.take j).map V.int)), ⟨c.length, by simp, Nat.zero_le _, e, by rw [hd]; simp⟩, ?_⟩
      rintro j k H3 ⟨rfl, hj, e3, hd3⟩
      have hq : SqT K H3 a (c.map V.int) := .of (e3 _ _ ha)
      by_cases hjl : j < c.length
      · refine .inr ⟨⟨_, _, hq, List.getElem?_eq_getElem (by rw [List.length_map]; exact hjl)⟩, fun H4 => Same H H4 ∧ H4 D = some (.lst (((cs.take i).flatten ++ c.take (j + 1)).map V.int)), fun H4 p' => ⟨c.length - (j + 1), by omega, rfl, hjl, p'⟩, fun x H4 y => ?_⟩
        obtain ⟨e5, e6⟩ := y
        subst e5
        have e7 := e6 _ hq
        rw [List.getElem?_map, List.getElem?_eq_getElem hjl] at e7
        have e8 : x = V.int c[j] := (Option.some.inj e7).symm
        subst e8
        refine ⟨?_, ?_⟩
        · show (((( _ : L2.St).set j2 none).set j2 _).set j2 none) = (_ : L2.St).set j2 none
          rw [List.set_set, List.set_set]
        · refine ⟨_, List.getElem?_set_self (by rw [wipe_length, List.length_set, wipe_length]; exact h2), _, hd3, ?_, Same.mut e3 hD, ?_⟩
          · rw [List.length_map]
            exact sz_lt' (Nat.le_trans (hlf j hj) hl)
          · rw [upd_same, List.take_succ, List.getElem?_eq_getElem hjl, List.map_append, List.map_append, List.map_append, List.append_assoc]
            rfl
      · have ej : j = c.length := by omega
        subst ej
        refine .inl ⟨⟨_, hq, by rw [List.length_map]; exact Nat.le_refl _⟩, e3, ?_⟩
        rw [hd3, List.take_succ, hc, List.flatten_append, List.take_length]
        simp
  · have ei : i = xs.length := by omega
    subst ei
    refine .inl ⟨hJ.stop _ (hP _ e), q D H' hD e ?_⟩
    rw [hd, hlen, List.take_length]
/-- {k: v for .. in ..} -/
theorem dc_it {g : TG} {tt : TT} {tk tv : TE} {vs : List Nat} {Q : VK} (hi : ∀ R : It → Hp → Prop, R J H → wi σ H R) (hJ : ItOf P J xs) (hP : ∀ H', Same H H' → P H') (A : Nat → List (Key × V)) (hA0 : A 0 = []) (hAl : ∀ i, i < xs.length → (A i).length ≤ 100000)
    (hs : ∀ i x H' (Ny : V → V → Hp → Prop) (Nn : Hp → Prop), xs[i]? = some x → Same H H' → (∀ k z H4, Same H' H4 → A (i + 1) = putK (A i) k z → Ny (kV k) z H4) → (∀ H3, Same H' H3 → A (i + 1) = A i → Nn H3) →
      g x (wipe σ vs) H' fun σ2 H2 => wipe σ2 vs = wipe σ vs ∧ tt σ2 H2 fun b H3 => if b = true then tk σ2 H3 fun y H4 => tv σ2 H4 fun z H5 => Ny y z H5 else Nn H3)
    (q : ∀ D H', H D = none → Same H H' → H' D = some (.dK (A xs.length)) → Q (.ref D) H') : tDc wi g tt tk tv vs σ H Q := by
  refine hi _ fun D hD => ⟨fun i m H' => m = xs.length - i ∧ i ≤ xs.length ∧ Same H H' ∧ H' D = some (.dK (A i)), ⟨xs.length, by simp, Nat.zero_le _, Same.new hD, by rw [hA0, upd_same]⟩, ?_⟩
  rintro i m H' ⟨rfl, hi, e, hd⟩
  by_cases hlt : i < xs.length
  · refine .inr ⟨hJ.go i H' hlt (hP H' e), fun H2 => Same H H2 ∧ H2 D = some (.dK (A (i + 1))), fun H2 p' => ⟨xs.length - (i + 1), by omega, rfl, hlt, p'⟩, fun x H2 y => ?_⟩
    obtain ⟨e1, e2⟩ := hJ.yld i H' x H2 (hP H' e) hlt y
    subst e1
    refine hs i x _ (fun y z H4 => ∃ kvs k, y = kV k ∧ H4 D = some (.dK kvs) ∧ kvs.length < sizeLine ∧ (Same H (upd H4 D (.dK (putK kvs k z))) ∧ (upd H4 D (.dK (putK kvs k z))) D = some (.dK (A (i + 1))))) _ e2 e (fun k z H4 s1 h => ?_) (fun H3 s1 h => ?_)
    · exact ⟨A i, k, rfl, s1 _ _ hd, Nat.lt_of_le_of_lt (hAl i hlt) (by decide), Same.mut (e.trans s1) hD, by rw [h, upd_same]⟩
    · exact ⟨e.trans s1, by rw [h]; exact s1 _ _ hd⟩
  · have ei : i = xs.length := by omega
    subst ei
    exact .inl ⟨hJ.stop _ (hP _ e), q D H' hD e hd⟩
end
end Tx

set_option maxRecDepth 100000
set_option maxHeartbeats 2000000
namespace Tx
open PySem PySem.Spec PyProof.Rows L2
local macro_rules | `(tactic| walk_at "sx") => `(tactic| simp only [cxK, tSeq, tIfS, tTest, tOp, tUn, tSl, tVar, tPart, tNoPart, tC, tRet, tRetN, tNext, tAsg, tPar, tPar3, tAug, tDrop, tB, tAnd, tOr, tNot, tAndV, tOrV, tNotV, tIf, tChain, tCons, tNil, tTup, tLst, tCall, tCB, tBM, tBM0, gName, gCons, gNil, gTup, rNe, rEq, rI0, rI, rU, rSlS, ipI, tRaiseErr, tMkErr, rAppend, tLstRg, tRg1, tRg2, L2.start, List.map_cons, List.map_nil, List.length_cons, List.length_nil, List.cons_append, List.nil_append, List.append_nil, List.getElem?_cons_zero, List.getElem?_cons_succ, List.set_cons_zero, List.set_cons_succ, Option.some.injEq, V.int.injEq, V.str.injEq, V.bl.injEq, V.ref.injEq, List.cons.injEq, exists_eq_left, exists_eq_left', exists_eq_right', exists_and_left, exists_and_right, true_and, and_true, Nat.reduceAdd, Nat.reduceSub, Nat.zero_add, List.replicate_zero, List.replicate_succ, ite_d, ite_nd, ite_b, scal, len_tx, tl_tx, eq_tx, app_tx, cut_nat, cut_to, cut_from, cut_t1, cut_t2, cut_t3, one_at, none_at, two_at, take1, take2, dr0, dr1, forall_eq', forall_eq, nc1, nc2, nc3, nca, Int.natCast_pos, Int.natCast_eq_zero, Bool.not_eq_true', Bool.not_eq_false', decide_eq_true_eq, decide_eq_false_iff_not, Bool.not_true, Bool.not_false, Decidable.not_not, WE, ex2, ex3, Nat.add_sub_add_left, Int.ofNat_lt, Int.natCast_inj, if_true, if_false, Bool.true_eq_false, Bool.false_eq_true, eq_self_iff_true, Nat.add_sub_cancel_left, Nat.add_sub_cancel, imp_false, not_false_eq_true, not_true_eq_false, forall_const, exists_and_self, reduceCtorEq, false_and, and_false, exists_false, List.cons_ne_nil, wipe, List.foldr_cons, List.foldr_nil, List.foldl_cons, List.foldl_nil, tYes, tCKw, tM1, gSub, tAugS, lit_e, lit_10, lit_32, lit_32_32, lit_32_43_32, lit_32_43_32_91_49_93, lit_32_45_32, lit_40, lit_40_41, lit_40_41_40_41, lit_40_48_32_49, lit_40_48_32_49_41, lit_40_48_32_49_41_40_50_32_49_41, lit_40_48_41, lit_41, lit_43, lit_44, lit_44_44, lit_44_51, lit_45, lit_45_48, lit_45_48_91_49_93, lit_48, lit_48_48, lit_48_49, lit_48_49_50_51_52_53_54_55_56_57, lit_49, lit_49_44_44_50, lit_50, lit_50_91_48_93_32_43_91_49_93, lit_57, lit_91, lit_91_48_49_93, lit_91_48_93, lit_91_50_93, lit_93, lit_107_105_110_100_115, lit_109_111_118_101, lit_112_97_114_115_101, lit_114_111_119, lit_116_111_108_100, lit_120])
local macro_rules | `(tactic| walk_at "sl") => `(tactic| simp only [lit_e, lit_10, lit_32, lit_32_32, lit_32_43_32, lit_32_43_32_91_49_93, lit_32_45_32, lit_40, lit_40_41, lit_40_41_40_41, lit_40_48_32_49, lit_40_48_32_49_41, lit_40_48_32_49_41_40_50_32_49_41, lit_40_48_41, lit_41, lit_43, lit_44, lit_44_44, lit_44_51, lit_45, lit_45_48, lit_45_48_91_49_93, lit_48, lit_48_48, lit_48_49, lit_48_49_50_51_52_53_54_55_56_57, lit_49, lit_49_44_44_50, lit_50, lit_50_91_48_93_32_43_91_49_93, lit_57, lit_91, lit_91_48_49_93, lit_91_48_93, lit_91_50_93, lit_93, lit_107_105_110_100_115, lit_109_111_118_101, lit_112_97_114_115_101, lit_114_111_119, lit_116_111_108_100, lit_120])
section
variable {w : World} {K : PySem.W.Frag} {mg : Str → Option Value} {base : Heap}
def sp_are_integers : Sp := fun vs H Q _ => ∃ (a : Addr) (ns : List Int), vs = [.ref a] ∧ H a = some (.tup (ns.map V.int)) ∧ ns.length ≤ 100000 ∧ ∀ H', Same H H' → Q (.bl (intsB ns)) H'
theorem ok_are_integers (S : Pg K mg) : FnOk prog w K mg base CX0 3 S.are_integers.f S.are_integers.fd ["value"] sp_are_integers := by
  refine S.are_integers.F.ok sc_are_integers (fun vs H Q E h => ?_) (fun cdv A outer s H vs Q E hr h => ?_)
  · obtain ⟨a, ns, rfl, _⟩ := h
    rfl
  · obtain ⟨a, ns, rfl, ha, hl, k⟩ := h
    refine ⟨_, (pss_one (ps_ret (pe_and (pe_callB call_isi (by rfl) S.b_isinstance (by decide +kernel) (pa_cons (pv 0) (pa_cons (pe_bltn (v := .ty "tuple") (u := .type "tuple") (by rfl) S.b_tuple (by decide +kernel) rfl) pa_nil))) (pe_and (pe_chain op_le op_le pe_int (pe_callB call_len_seq (by rfl) S.b_len (by decide +kernel) (pa_cons (pv 0) pa_nil)) (pe_glob (v := .int 60) rfl S.g_MOST_MEMBERS ⟨_, rfl⟩)) (pe_one (pe_callB (cr_all rfl) (by rfl) S.b_all (by decide +kernel) (pa_cons (pe_lc (own := [("one", 1)]) rfl sc_are_integers.nd (pi_tup (pv 0)) (blkOk_by (N := ["value", "one"]) (sc := defScope (top 21)) (by decide +kernel)) (fun _ _ _ _ _ => (pg_name (i := 1) sc_are_integers.nd rfl (Or.inl rfl))) (fun _ _ _ _ _ => pts_nil) (fun _ _ _ _ _ => (pe_call (ok_is_integer S) (hr.mono (by decide)) rfl S.is_integer.m S.is_integer.F.kp S.is_integer.b .nil pass0 (pa_cons (pv 1) pa_nil)))) pa_nil))))))), ?_⟩
    walk_at "sx"
    refine isi_of (b := true) (.base (.tup ha)) (by decide +kernel) ⟨true, rfl, fun _ => ⟨_, .inr (SqT.of ha), ?_⟩, fun h => nomatch h⟩
    rw [List.length_map]
    refine ⟨fun h1 => ⟨fun h2 => ?_, fun h2 => ?_⟩, fun h1 => ⟨fun h => h.elim, ?_⟩⟩
    · refine lc_map (fun x => match x with | .int n => .bl (isI n) | _ => x) (fun R h => ⟨_, rfl, _, rfl, ⟨_, SqT.of ha⟩, h⟩) itT (fun H' e => SqT.of (e _ _ ha)) (by rw [List.length_map]; exact hl) (fun x H' Ny hx e hy => ?_) (fun D H' hD e h => ?_)
      · obtain ⟨n, hn, rfl⟩ := List.mem_map.mp hx
        walk_at "sx"
        exact ⟨n, rfl, hy _ (Same.refl _)⟩
      · refine ⟨D, ns.map isI, rfl, SqL.of (by rw [h, List.map_map, List.map_map]; rfl), ?_⟩
        have hk := k H' e
        have e2 : intsB ns = (ns.map isI).all id := by
          unfold intsB
          rw [decide_eq_true (by omega), Bool.true_and, List.all_map]
          rfl
        rw [e2] at hk
        exact hk
    · have hk := k H (Same.refl H)
      unfold intsB at hk
      rw [decide_eq_false (by omega)] at hk
      exact hk
    · have hk := k H (Same.refl H)
      unfold intsB at hk
      rw [decide_eq_false (by omega)] at hk
      exact hk
theorem rgV_rgI (p : Nat) : rgV 0 p = (rgI p).map V.int := by
  unfold rgV rgI
  rw [List.map_map]
  have e : ((p : Int) - 0).toNat = p := by omega
  rw [e]
  refine List.map_congr_left fun i hi => ?_
  show V.int (0 + (i : Int)) = V.int (i : Int)
  rw [Int.zero_add]
theorem ixN_nat {n j : Nat} (h : j < n) : ixN n (j : Int) = some j := by
  unfold ixN
  rw [if_pos (by omega), if_pos (by omega)]
  simp
structure TolI (K : PySem.W.Frag) (rs : List V) (cs : List (List Int)) (a f : Addr) (H : Hp) (p : Nat) (t : Option V) (i : Nat) (σ : L2.St) (H' : Hp) : Prop where
  ex : ∃ o4 o5 o6, Same H H' ∧ H f = none ∧ H' f = some (.lst ((putRs (rgI p) (cs.take i)).map V.int)) ∧ σ = [some (.int (p : Nat)), some (.ref a), t, some (.ref f), o4, o5, o6]
def sp_move_told (S : Pg K mg) : Sp := fun vs H Q E => ∃ (p : Nat) (a : Addr) (rs : List V) (cs : List (List Int)), vs = [.int (p : Nat), .ref a] ∧ 1 ≤ p ∧ p ≤ 24 ∧ H a = some (.lst rs) ∧ Tups H rs cs ∧ Rings cs ∧ cs.flatten.length ≤ 100000 ∧
  match moveOf p cs with
  | none => errOwn S.x_InvalidMove.C H E
  | some f => okTup H Q (f.map V.int)
theorem ok_move_told (S : Pg K mg) : FnOk prog w K mg base (L2.CX prog w) 2 S.move_told.f S.move_told.fd ["places", "cycles"] (sp_move_told S) := by
  refine S.move_told.F.okX sc_move_told (fun vs H Q E h => ?_) (fun cdv A outer s H vs Q E hr h => ?_)
  · obtain ⟨p, a, rs, cs, rfl, _⟩ := h
    rfl
  · obtain ⟨p, a, rs, cs, rfl, hp1, hp2, ha, ht, hr1, hfl, k⟩ := h
    refine ⟨_, (Evl.pss_cut (ps_setLc2 (wi1 := iTup K (tVar 4)) (i := 2) (own := [("cycle", 4), ("place", 6)]) (vs1 := [6]) rfl sc_move_told.nd rfl rfl (sw_true rfl rfl rfl (by decide +kernel)) (pi_list (pv 1)) (blkOk_by (N := ["places", "cycles", "told", "found", "cycle", "at", "place"]) (sc := defScope (top 29)) (by decide +kernel)) (by decide) (fun _ _ _ _ _ => (pg_name (i := 4) sc_move_told.nd rfl (Or.inl rfl))) (fun _ _ _ _ _ => pts_nil) (fun _ _ _ _ _ => (pi_tup (pv 4))) (fun _ _ _ _ _ => (pg_name (i := 6) sc_move_told.nd rfl (Or.inl rfl))) (fun _ _ _ _ _ => pts_nil) (fun _ _ _ _ _ => (pv 6)))
  (Evl.pss_cut (ps_if (PW.pt (pw_or (pt_cmpR op_lt (pe_callB call_lenD (by rfl) S.b_len (by decide +kernel) (pa_cons (pe_dc (own := [("place", 6)]) rfl sc_move_told.nd (pi_list (pv 2)) (blkOk_by (N := ["places", "cycles", "told", "found", "cycle", "at", "place"]) (sc := defScope (top 29)) (by decide +kernel)) (fun _ _ _ _ _ => (pg_name (i := 6) sc_move_told.nd rfl (Or.inl rfl))) (fun _ _ _ _ _ => pts_nil) (fun _ _ _ _ _ => (pv 6)) (fun _ _ _ _ _ => pe_bl)) pa_nil)) (pe_callB call_len_seq (by rfl) S.b_len (by decide +kernel) (pa_cons (pv 2) pa_nil)) (nomark _)) (pw_or1 (pt_cmpR op_ge (pe_callBK (crk_maxD (by rfl) hr.units) (by rfl) S.b_max (by decide +kernel) (pa_cons (pv 2) pa_nil) (pk_cons pe_int pk_nil)) (pv 0) (nomark _)))))
    (pss_one (ps_raise rfl (takes_of rfl rfl rfl rfl) (pmk_own PySem.F.excBase_ValueError S.x_InvalidMove.x S.x_InvalidMove.g S.x_InvalidMove.k (raises_own S.x_InvalidMove.b S.x_InvalidMove.t) rfl)))
    pss_nil)
  (pss_cons (ps_set (i := 3) sc_move_told.nd rfl (Or.inl rfl) (pe_listRg rfl (by rfl) S.b_list (prg_1 (by rfl) S.b_range (pv 0))))
  (pss_cons (ps_for (passes_of rfl) rfl (pi_list (pv 1)) (pg_name (i := 4) sc_move_told.nd rfl (Or.inl rfl))
    (pss_one (ps_for (passes_of rfl) rfl (pi_enumT (by rfl) S.b_enumerate (pa_cons (pv 4) pa_nil)) (pg_tup rfl (pgs_cons (pg_name (i := 5) sc_move_told.nd rfl (Or.inl rfl)) (pgs_cons (pg_name (i := 6) sc_move_told.nd rfl (Or.inl rfl)) pgs_nil)))
      (pss_one (ps_asg (pe_ix ix_tup (pv 4) (pe_op op_mod (pe_op op_add (pv 5) pe_int) (pe_callB call_len_seq (by rfl) S.b_len (by decide +kernel) (pa_cons (pv 4) pa_nil))) (fun _ _ => rfl)) (pg_sub (pv 3) (pv 6) set_list))))))
  (pss_one (ps_ret (pe_callTy call_tuple_of (by rfl) S.b_tuple (by decide +kernel) (pa_cons (pv 3) pa_nil)))))))), ?_⟩
    refine ⟨fun σ' H' => Same H H' ∧ ∃ t, H' t = some (.lst (cs.flatten.map V.int)) ∧ σ' = [some (.int (p : Nat)), some (.ref a), some (.ref t), none, none, none, none], ?_, ?_⟩
    · refine lc_flat (fun R h => ⟨_, rfl, _, rfl, ⟨_, SqL.of ha⟩, h⟩) itL (fun H' e => SqL.of (e _ _ ha)) ht hfl (by show 4 < 7; decide) (by show 6 < 7; decide) (by decide) fun D H' hD e h => ?_
      exact ⟨e, D, h, rfl⟩
    rintro σ' H1 ⟨e1, t, ht1, rfl⟩
    refine ⟨fun σ' H' => Same H H' ∧ moveOf p cs = some (putRs (rgI p) cs) ∧ (∀ x ∈ cs.flatten, x < (p : Int)) ∧ σ' = [some (.int (p : Nat)), some (.ref a), some (.ref t), none, none, none, none], ?_, ?_⟩
    · walk_at "sx"
      refine dc_it (fun R h => ⟨_, rfl, _, rfl, ⟨_, SqL.of ht1⟩, h⟩) itL (fun H' e => SqL.of (e _ _ ht1)) (fun i => dkOf (cs.flatten.take i)) rfl (fun i _ => Nat.le_trans (dkOf_len _).1 (by rw [List.length_take]; omega)) (fun i x H' Ny Nn hx e hy hn => ?_) (fun D H2 hD e h => ?_)
      · rw [List.getElem?_map] at hx
        obtain ⟨n, hn1, rfl⟩ := Option.map_eq_some_iff.mp hx
        walk_at "sx"
        refine hy (.inl n) _ H' (Same.refl _) ?_
        rw [List.take_succ, hn1]
        exact dkOf_snoc _ n
      · rw [List.length_map, List.take_length] at h
        have e2 := e1.trans e
        have nd := (dkOf_len cs.flatten).2
        have nl := (dkOf_len cs.flatten).1
        refine ⟨D, rfl, _, h, _, .inl (SqL.of (e _ _ ht1)), ?_⟩
        rw [List.length_map]
        refine ⟨fun c => ?_, fun c => ?_⟩
        · have : moveOf p cs = none := if_neg fun z => by
            have := nd.mpr z.1
            omega
          rw [this] at k
          exact k _ e2
        · refine ⟨_, cs.flatten, 0, rfl, rfl, SqL.of (e _ _ ht1), _, rfl, fun c2 => ?_, fun c2 => ?_⟩
          · obtain ⟨n, hn, hp⟩ := (most_ge (by omega) cs.flatten).mp c2
            have : moveOf p cs = none := if_neg fun z => by
              have := z.2 n hn
              omega
            rw [this] at k
            exact k _ e2
          · have hlt : ∀ x ∈ cs.flatten, x < (p : Int) := fun x hx => by
              rcases Int.lt_or_le x p with z | z
              · exact z
              · exact absurd ((most_ge (by omega) cs.flatten).mpr ⟨x, hx, z⟩) c2
            exact ⟨e2, if_pos ⟨nd.mp (by omega), hlt⟩, hlt⟩
    rintro σ' H2 ⟨e2, hm, hlt, rfl⟩
    rw [hm] at k
    walk_at "sx"
    refine ⟨RgOk.of_le (by omega) (by omega) (by omega) (by omega), fun f hf => ?_⟩
    rw [rgV_rgI]
    refine for_it (fun R h => ⟨_, rfl, _, rfl, ⟨_, SqL.of (Same.new hf _ _ (e2 _ _ ha))⟩, h⟩) itL (fun i σ H' => TolI K rs cs a f H p (some (.ref t)) i σ H') ⟨_, _, _, e2.trans (Same.new hf), e2.free hf, upd_same, rfl⟩ (fun i σ H' hi ⟨o4, o5, o6, e, _⟩ => SqL.of (e _ _ ha)) ?_ ?_
    · rintro i x σ H3 hx ⟨o4, o5, o6, e3, hf0, hff, rfl⟩
      obtain ⟨c, hc, b, rfl, hb⟩ := pget ht hx
      have hbs : ∀ {H4}, Same H H4 → SqT K H4 b (c.map V.int) := fun e => SqT.of (e _ _ hb)
      have hcm : c ∈ cs := List.mem_of_getElem? hc
      have hc2 := (hr1 c hcm).1
      have ein : ∀ x ∈ c, x ∈ cs.flatten := fun x hx => List.mem_flatten.mpr ⟨c, hcm, hx⟩
      refine for_en (a := b) (xs := c.map V.int) (fun R h => ⟨_, rfl, b, _, rfl, hbs e3, h⟩) (fun j σ H' => ∃ o5 o6, Same H H' ∧ H' f = some (.lst ((putR (putRs (rgI p) (cs.take i)) c j).map V.int)) ∧ σ = [some (.int (p : Nat)), some (.ref a), some (.ref t), some (.ref f), some (.ref b), o5, o6]) ⟨o5, o6, e3, hff, rfl⟩ (fun j σ H' hj ⟨_, _, e, _⟩ => hbs e) ?_ ?_
      · rintro j x T σ H4 hx4 hT ⟨o5, o6, e4, hff4, rfl⟩
        rw [List.getElem?_map] at hx4
        obtain ⟨n, hn, rfl⟩ := Option.map_eq_some_iff.mp hx4
        have hjl : j < c.length := (List.getElem?_eq_some_iff.mp hn).1
        have hnm : n ∈ c := List.mem_of_getElem? hn
        have hn0 : 0 ≤ n := (hr1 c hcm).2 n hnm
        have hnp := hlt n (ein n hnm)
        walk_at "sx"
        refine unp upd_same rfl ?_
        walk_at "sx"
        have e5 := e4.trans (Same.new (o := .tup [.int (j : Nat), .int n]) hT)
        refine ⟨_, .inr (hbs e5), ?_⟩
        rw [List.length_map]
        have hnt : ∃ k : Nat, n = (k : Int) := ⟨n.toNat, by omega⟩
        obtain ⟨k2, rfl⟩ := hnt
        have hmod : (((j + 1 : Nat) : Int)) % (c.length : Int) = (((j + 1) % c.length : Nat) : Int) := (Int.natCast_emod (j + 1) c.length).symm
        have hgl : (j + 1) % c.length < c.length := Nat.mod_lt _ (by omega)
        have hg : (c.map V.int)[(j + 1) % c.length]? = some (.int (c.getD ((j + 1) % c.length) 0)) := by
          rw [List.getElem?_map, List.getD_eq_getElem?_getD, List.getElem?_eq_getElem hgl]
          rfl
        have hln : ((putR (putRs (rgI p) (cs.take i)) c j).map V.int).length = p := by rw [List.length_map, putR_len, putRs_len, rgI_len]
        refine ⟨by omega, _, _, _, _, rfl, rfl, hbs e5, by rw [hmod]; exact atI_nat hg, ?_⟩
        refine ⟨_, _, _, k2, rfl, rfl, Same.new hT _ _ hff4, by rw [hln]; exact ixN_nat (by omega), ?_⟩
        refine ⟨Same.mut e5 hf0, ?_⟩
        rw [upd_same]
        show _ = some (HO.lst (((putR (putRs (rgI p) (cs.take i)) c j).set (c.getD j 0).toNat (c.getD ((j + 1) % c.length) 0)).map V.int))
        have e6 : (c.getD j 0).toNat = k2 := by
          rw [List.getD_eq_getElem?_getD, hn]
          show ((k2 : Nat) : Int).toNat = k2
          omega
        rw [e6, List.map_set]
      · rintro σ H4 ⟨o5, o6, e4, hff4, rfl⟩
        rw [List.length_map] at hff4
        refine ⟨_, _, _, e4, hf0, ?_, rfl⟩
        rw [hff4, List.take_succ, hc]
        show _ = some (HO.lst ((putRs (rgI p) (cs.take i ++ [c])).map V.int))
        rw [putRs_snoc]
    · rintro σ H3 ⟨o4, o5, o6, e3, hf0, hff, rfl⟩
      walk_at "sx"
      have hln : rs.length = cs.length := Paired.length ht
      rw [hln, List.take_length] at hff
      exact ⟨_, .inl ⟨SqL.of hff, (k.go e3).now⟩⟩
end
end Tx

set_option maxRecDepth 100000
set_option maxHeartbeats 2000000
namespace Tx
open PySem PySem.Spec PyProof.Rows L2
local macro_rules | `(tactic| walk_at "sx") => `(tactic| simp only [cxK, tSeq, tIfS, tTest, tOp, tUn, tSl, tVar, tPart, tNoPart, tC, tRet, tRetN, tNext, tAsg, tPar, tPar3, tAug, tDrop, tB, tAnd, tOr, tNot, tAndV, tOrV, tNotV, tIf, tChain, tCons, tNil, tTup, tLst, tCall, tCB, tBM, tBM0, gName, gCons, gNil, gTup, rNe, rEq, rI0, rI, rU, rSlS, ipI, tRaiseErr, tMkErr, rAppend, tLstRg, tRg1, tRg2, L2.start, List.map_cons, List.map_nil, List.length_cons, List.length_nil, List.cons_append, List.nil_append, List.append_nil, List.getElem?_cons_zero, List.getElem?_cons_succ, List.set_cons_zero, List.set_cons_succ, Option.some.injEq, V.int.injEq, V.str.injEq, V.bl.injEq, V.ref.injEq, List.cons.injEq, exists_eq_left, exists_eq_left', exists_eq_right', exists_and_left, exists_and_right, true_and, and_true, Nat.reduceAdd, Nat.reduceSub, Nat.zero_add, List.replicate_zero, List.replicate_succ, ite_d, ite_nd, ite_b, scal, len_tx, tl_tx, eq_tx, app_tx, cut_nat, cut_to, cut_from, cut_t1, cut_t2, cut_t3, one_at, none_at, two_at, take1, take2, dr0, dr1, forall_eq', forall_eq, nc1, nc2, nc3, nca, Int.natCast_pos, Int.natCast_eq_zero, Bool.not_eq_true', Bool.not_eq_false', decide_eq_true_eq, decide_eq_false_iff_not, Bool.not_true, Bool.not_false, Decidable.not_not, WE, ex2, ex3, Nat.add_sub_add_left, Int.ofNat_lt, Int.natCast_inj, if_true, if_false, Bool.true_eq_false, Bool.false_eq_true, eq_self_iff_true, Nat.add_sub_cancel_left, Nat.add_sub_cancel, imp_false, not_false_eq_true, not_true_eq_false, forall_const, exists_and_self, reduceCtorEq, false_and, and_false, exists_false, List.cons_ne_nil, wipe, List.foldr_cons, List.foldr_nil, List.foldl_cons, List.foldl_nil, tYes, tCKw, tM1, gSub, tAugS, lit_e, lit_10, lit_32, lit_32_32, lit_32_43_32, lit_32_43_32_91_49_93, lit_32_45_32, lit_40, lit_40_41, lit_40_41_40_41, lit_40_48_32_49, lit_40_48_32_49_41, lit_40_48_32_49_41_40_50_32_49_41, lit_40_48_41, lit_41, lit_43, lit_44, lit_44_44, lit_44_51, lit_45, lit_45_48, lit_45_48_91_49_93, lit_48, lit_48_48, lit_48_49, lit_48_49_50_51_52_53_54_55_56_57, lit_49, lit_49_44_44_50, lit_50, lit_50_91_48_93_32_43_91_49_93, lit_57, lit_91, lit_91_48_49_93, lit_91_48_93, lit_91_50_93, lit_93, lit_107_105_110_100_115, lit_109_111_118_101, lit_112_97_114_115_101, lit_114_111_119, lit_116_111_108_100, lit_120])
local macro_rules | `(tactic| walk_at "sl") => `(tactic| simp only [lit_e, lit_10, lit_32, lit_32_32, lit_32_43_32, lit_32_43_32_91_49_93, lit_32_45_32, lit_40, lit_40_41, lit_40_41_40_41, lit_40_48_32_49, lit_40_48_32_49_41, lit_40_48_32_49_41_40_50_32_49_41, lit_40_48_41, lit_41, lit_43, lit_44, lit_44_44, lit_44_51, lit_45, lit_45_48, lit_45_48_91_49_93, lit_48, lit_48_48, lit_48_49, lit_48_49_50_51_52_53_54_55_56_57, lit_49, lit_49_44_44_50, lit_50, lit_50_91_48_93_32_43_91_49_93, lit_57, lit_91, lit_91_48_49_93, lit_91_48_93, lit_91_50_93, lit_93, lit_107_105_110_100_115, lit_109_111_118_101, lit_112_97_114_115_101, lit_114_111_119, lit_116_111_108_100, lit_120])
section
variable {w : World} {K : PySem.W.Frag} {mg : Str → Option Value} {base : Heap}
def sp_read_move (S : Pg K mg) : Sp := fun vs H Q E => ∃ (l : List Nat) (p : Nat), vs = [tx l, .int (p : Nat)] ∧ l.length ≤ 3000 ∧ 1 ≤ p ∧ p ≤ 24 ∧
  match ringsOf l with
  | .error e => errAt S e H E
  | .ok cs => match moveOf p cs with
    | none => errOwn S.x_InvalidMove.C H E
    | some f => okTup H Q (f.map V.int)
theorem ok_read_move (S : Pg K mg) : FnOk prog w K mg base (L2.CX prog w) 5 S.read_move.f S.read_move.fd ["text", "places"] (sp_read_move S) := by
  refine S.read_move.F.okX sc_read_move (fun vs H Q E h => ?_) (fun cdv A outer s H vs Q E hr h => ?_)
  · obtain ⟨l, p, rfl, _⟩ := h
    rfl
  · obtain ⟨l, p, rfl, hl, hp1, hp2, k⟩ := h
    refine ⟨_, (pss_cons (ps_expr (pe_call (ok_require_text S) (hr.mono (by decide)) rfl S.require_text.m S.require_text.F.kp S.require_text.b .nil pass0 (pa_cons (pv 0) pa_nil)))
  (pss_cons (ps_expr (pe_call (ok_require_within S) (hr.mono (by decide)) rfl S.require_within.m S.require_within.F.kp S.require_within.b .nil pass0 (pa_cons (pv 1) (pa_cons pe_int (pa_cons (pe_glob (v := .int 24) rfl S.g_MOST_PLACES ⟨_, rfl⟩) pa_nil)))))
  (pss_cons (ps_asg (pe_call (ok_cycles_at S) (hr.mono (by decide)) rfl S.cycles_at.m S.cycles_at.F.kp S.cycles_at.b .nil (passes_call (takes_of rfl rfl rfl rfl) (fun _ _ _ _ h => h)) (pa_cons (pv 0) (pa_cons pe_int pa_nil))) (pg_tup rfl (pgs_cons (pg_name (i := 2) sc_read_move.nd rfl (Or.inl rfl)) (pgs_cons (pg_name (i := 3) sc_read_move.nd rfl (Or.inl rfl)) pgs_nil))))
  (pss_cons (ps_expr (pe_call (ok_require_end S) (hr.mono (by decide)) rfl S.require_end.m S.require_end.F.kp S.require_end.b .nil (passes_call (takes_of rfl rfl rfl rfl) (fun _ _ _ _ h => h)) (pa_cons (pv 0) (pa_cons (pv 3) pa_nil))))
  (pss_one (ps_ret (pe_call (ok_move_told S) (hr.mono (by decide)) rfl S.move_told.m S.move_told.F.kp S.move_told.b .nil (passes_call (takes_of rfl rfl rfl rfl) (fun _ _ _ _ h => h)) (pa_cons (pv 1) (pa_cons (pv 2) pa_nil))))))))), ?_⟩
    walk_at "sx"
    refine ⟨l, rfl, hl, ?_⟩
    walk_at "sx"
    refine ⟨_, _, _, rfl, ⟨by omega, by omega⟩, ?_⟩
    walk_at "sx"
    refine ⟨l, 0, rfl, by omega, ?_⟩
    unfold ringsOf at k
    cases e1 : cycsAt l 0 with
    | error e =>
      rw [e1] at k
      exact k
    | ok y =>
      obtain ⟨cs, j⟩ := y
      obtain ⟨q1, q2, q3⟩ := cycsAt_ok e1
      have q4 := cycsAt_len e1
      rw [e1] at k
      intro a b H1 rs e ha0 hb0 ha hb ht
      walk_at "sx"
      refine unp ha rfl ?_
      walk_at "sx"
      refine ⟨l, j, rfl, by omega, fun c => ?_, fun c => ?_⟩
      · simp only [if_pos c] at k
        exact k.go e
      · simp only [if_neg c] at k
        refine ⟨p, b, rs, cs, rfl, hp1, hp2, hb, ht, q3, by omega, ?_⟩
        cases e2 : moveOf p cs with
        | none =>
          rw [e2] at k
          exact fun H' e' => k H' (e.trans e')
        | some f =>
          rw [e2] at k
          exact k.go e
theorem rep1 (n : Nat) (v : V) : (List.replicate n [v]).flatten = List.replicate n v := by
  induction n with
  | zero => rfl
  | succ n ih =>
    rw [List.replicate_succ, List.flatten_cons, ih]
    rfl
def sp_read_kinds (S : Pg K mg) : Sp := fun vs H Q E => ∃ (l : List Nat) (n : Nat), vs = [tx l, .int (n : Nat)] ∧ l.length ≤ 3000 ∧ 1 ≤ n ∧ n ≤ 60 ∧
  match termsAll l with
  | .error e => errAt S e H E
  | .ok ts => match kindsOf n ts with
    | none => errOwn S.x_InvalidKinds.C H E
    | some f => okTup H Q (f.map V.int)
theorem ok_read_kinds (S : Pg K mg) : FnOk prog w K mg base (L2.CX prog w) 5 S.read_kinds.f S.read_kinds.fd ["text", "length"] (sp_read_kinds S) := by
  refine S.read_kinds.F.okX sc_read_kinds (fun vs H Q E h => ?_) (fun cdv A outer s H vs Q E hr h => ?_)
  · obtain ⟨l, n, rfl, _⟩ := h
    rfl
  · obtain ⟨l, n, rfl, hl, hn1, hn2, k⟩ := h
    refine ⟨_, (pss_cons (ps_expr (pe_call (ok_require_text S) (hr.mono (by decide)) rfl S.require_text.m S.require_text.F.kp S.require_text.b .nil pass0 (pa_cons (pv 0) pa_nil)))
  (pss_cons (ps_expr (pe_call (ok_require_within S) (hr.mono (by decide)) rfl S.require_within.m S.require_within.F.kp S.require_within.b .nil pass0 (pa_cons (pv 1) (pa_cons pe_int (pa_cons (pe_glob (v := .int 60) rfl S.g_MOST_MEMBERS ⟨_, rfl⟩) pa_nil)))))
  (Evl.pss_cut (ps_set (i := 2) sc_read_kinds.nd rfl (Or.inl rfl) (pe_ifExp (pt_cmpR op_eq (pv 0) (pe_glob (v := .str "0") rfl S.g_NOTHING ⟨_, rfl⟩) (nomark _)) (pe_lst pa_nil) (pe_call (ok_terms_at S) (hr.mono (by decide)) rfl S.terms_at.m S.terms_at.F.kp S.terms_at.b .nil (passes_call (takes_of rfl rfl rfl rfl) (fun _ _ _ _ h => h)) (pa_cons (pv 0) pa_nil))))
  (pss_cons (ps_if (pt_val (pe_callB (cr_any rfl) (by rfl) S.b_any (by decide +kernel) (pa_cons (pe_lc (g := (gTup K 2 (gCons (gName 4) (gCons (gName 5) gNil)))) (own := [("number", 4), ("place", 5)]) rfl sc_read_kinds.nd (pi_list (pv 2)) (blkOk_by (N := ["text", "length", "terms", "found", "number", "place"]) (sc := defScope (top 34)) (by decide +kernel)) (fun _ _ _ _ _ => (pg_tup rfl (pgs_cons (pg_name (i := 4) sc_read_kinds.nd rfl (Or.inl rfl)) (pgs_cons (pg_name (i := 5) sc_read_kinds.nd rfl (Or.inl rfl)) pgs_nil)))) (fun _ _ _ _ _ => pts_nil) (fun _ _ _ _ _ => (pe_cmpR op_ge (pv 5) (pv 1) (nomark _)))) pa_nil)))
    (pss_one (ps_raise rfl (takes_of rfl rfl rfl rfl) (pmk_own PySem.F.excBase_ValueError S.x_InvalidKinds.x S.x_InvalidKinds.g S.x_InvalidKinds.k (raises_own S.x_InvalidKinds.b S.x_InvalidKinds.t) rfl)))
    pss_nil)
  (pss_cons (ps_set (i := 3) sc_read_kinds.nd rfl (Or.inl rfl) (pe_op op_rep (pe_lst (pa_cons pe_int pa_nil)) (pv 1)))
  (pss_cons (ps_for (passes_of rfl) rfl (pi_list (pv 2)) (pg_tup rfl (pgs_cons (pg_name (i := 4) sc_read_kinds.nd rfl (Or.inl rfl)) (pgs_cons (pg_name (i := 5) sc_read_kinds.nd rfl (Or.inl rfl)) pgs_nil)))
    (pss_one (ps_augS (pv 3) (pv 5) get_list (pv 4) ip_add set_list)))
  (pss_cons (ps_if (pt_not (pt_val (pe_call (ok_are_integers S) (hr.mono (by decide)) rfl S.are_integers.m S.are_integers.F.kp S.are_integers.b .nil pass0 (pa_cons (pe_callTy call_tuple_of (by rfl) S.b_tuple (by decide +kernel) (pa_cons (pv 3) pa_nil)) pa_nil))))
    (pss_one (ps_raise rfl (takes_of rfl rfl rfl rfl) (pmk_own PySem.F.excBase_ValueError S.x_InvalidKinds.x S.x_InvalidKinds.g S.x_InvalidKinds.k (raises_own S.x_InvalidKinds.b S.x_InvalidKinds.t) rfl)))
    pss_nil)
  (pss_one (ps_ret (pe_callTy call_tuple_of (by rfl) S.b_tuple (by decide +kernel) (pa_cons (pv 3) pa_nil))))))))))), ?_⟩
    walk_at "sx"
    refine ⟨l, rfl, hl, ?_⟩
    walk_at "sx"
    refine ⟨_, _, _, rfl, ⟨by omega, by omega⟩, ?_⟩
    refine ⟨fun σ' H' => ∃ ts a rs, termsAll l = .ok ts ∧ Same H H' ∧ H' a = some (.lst rs) ∧ Tups H' rs (ts.map fun t => [t.1, t.2]) ∧ σ' = [some (tx l), some (.int (n : Nat)), some (.ref a), none, none, none], ?_, ?_⟩
    · walk_at "sx"
      refine ⟨fun c => ⟨Nat.zero_le _, fun q hq => ⟨[], if_pos c, Same.new hq, q, [], upd_same, .nil, rfl⟩⟩, fun c => ⟨l, rfl, hl, ?_⟩⟩
      have ea : termsAll l = termsOf l := if_neg c
      rw [ea] at k ⊢
      cases e1 : termsOf l with
      | error e =>
        rw [e1] at k
        exact k
      | ok ts =>
        intro a H' rs e _ ha ht
        exact ⟨ts, rfl, e, a, rs, ha, ht, rfl⟩
    rintro σ' H1 ⟨ts, a, rs, e1, e2, ha, ht, rfl⟩
    obtain ⟨q1, q2⟩ := termsAll_ok e1
    rw [e1] at k
    have hln : rs.length = ts.length := by
      have z := Paired.length ht
      rw [List.length_map] at z
      exact z
    walk_at "sx"
    refine lc_it (xs := rs) (P := fun H' => SqL K H' a rs) (fun R h => ⟨_, rfl, _, rfl, ⟨_, SqL.of ha⟩, h⟩) itL (fun H' e => SqL.of (e _ _ ha)) (fun i => (ts.take i).map fun t => V.bl (decide ((n : Int) ≤ t.2))) rfl (fun i _ => by rw [List.length_map, List.length_take]; omega) (fun i x H' Ny Nn hx e hy hn => ?_) (fun D H2 hD e h => ?_)
    · obtain ⟨c, hc, b, rfl, hb⟩ := pget ht hx
      rw [List.getElem?_map] at hc
      obtain ⟨t, ht1, rfl⟩ := Option.map_eq_some_iff.mp hc
      walk_at "sx"
      refine unp (e _ _ hb) rfl ?_
      walk_at "sx"
      refine hy _ _ (Same.refl _) ?_
      rw [List.take_succ, ht1, List.map_append]
      rfl
    · rw [hln, List.take_length] at h
      refine ⟨D, ts.map fun t => decide ((n : Int) ≤ t.2), rfl, SqL.of (by rw [h, List.map_map]; rfl), ?_⟩
      have e3 := e2.trans e
      rw [List.any_map]
      refine ⟨_, rfl, fun c => ?_, fun c => ⟨by decide, fun z hz => ⟨z, n, _, rfl, rfl, upd_same, by omega, by omega, ?_, fun f hf => ?_⟩⟩⟩
      · have : kindsOf n ts = none := if_pos c
        simp only [this] at k
        exact k _ e3
      · rw [Int.toNat_natCast]
        exact sz_of (by simp only [List.length_cons, List.length_nil]; omega)
      · have e4 := e3.trans (Same.new (o := .lst [V.int 0]) hz)
        have hkn : kindsOf n ts = if (sumT n ts).all isI = true then some (sumT n ts) else none := if_neg (by rw [Bool.eq_false_iff] at c; exact c)
        have hr : (List.replicate ((n : Int)).toNat [V.int 0]).flatten = (sumT n []).map V.int := by
          rw [Int.toNat_natCast]
          show _ = (List.replicate n (0 : Int)).map V.int
          rw [List.map_replicate]
          exact rep1 n _
        rw [hr]
        refine for_it (xs := rs) (P := fun H' => SqL K H' a rs) (fun R h => ⟨_, rfl, _, rfl, ⟨_, SqL.of (Same.new hf _ _ (Same.new hz _ _ (e _ _ ha)))⟩, h⟩) itL (fun i σ H' => ∃ o4 o5, Same H1 H' ∧ H1 f = none ∧ H' f = some (.lst ((sumT n (ts.take i)).map V.int)) ∧ σ = [some (tx l), some (.int (n : Nat)), some (.ref a), some (.ref f), o4, o5]) ⟨_, _, (e.trans (Same.new hz)).trans (Same.new hf), (e.trans (Same.new hz)).free hf, upd_same, rfl⟩ (fun i σ H' hi ⟨o4, o5, e, _⟩ => SqL.of (e _ _ ha)) ?_ ?_
        · rintro i x σ H3 hx ⟨o4, o5, e5, hf0, hff, rfl⟩
          obtain ⟨c2, hc2, b, rfl, hb⟩ := pget ht hx
          rw [List.getElem?_map] at hc2
          obtain ⟨t, ht1, rfl⟩ := Option.map_eq_some_iff.mp hc2
          walk_at "sx"
          refine unp (e5 _ _ hb) rfl ?_
          walk_at "sx"
          have ht0 := q1 t (List.mem_of_getElem? ht1)
          have htn : t.2 < (n : Int) := by
            rcases Int.lt_or_le t.2 n with z | z
            · exact z
            · have : ts.any (id ∘ fun t => decide ((n : Int) ≤ t.2)) = true := List.any_eq_true.mpr ⟨t, List.mem_of_getElem? ht1, decide_eq_true z⟩
              rw [this] at c
              cases c
          obtain ⟨k2, hk2⟩ : ∃ k2 : Nat, t.2 = (k2 : Int) := ⟨t.2.toNat, by omega⟩
          have hl2 : ((sumT n (ts.take i)).map V.int).length = n := by rw [List.length_map, sumT_len]
          have hk3 : k2 < (sumT n (ts.take i)).length := by rw [sumT_len]; omega
          rw [hk2]
          refine ⟨f, _, k2, .int ((sumT n (ts.take i)).getD k2 0), rfl, rfl, SqL.of hff, atI_nat ?_, _, rfl, ?_⟩
          · rw [List.getElem?_map, List.getD_eq_getElem?_getD, List.getElem?_eq_getElem hk3]
            rfl
          · refine ⟨f, _, _, k2, rfl, rfl, hff, by rw [hl2]; exact ixN_nat (by omega), Same.mut e5 hf0, hf0, ?_⟩
            rw [upd_same, List.take_succ, ht1]
            show _ = some (HO.lst ((sumT n (ts.take i ++ [t])).map V.int))
            rw [sumT_snoc, addT, hk2, Int.toNat_natCast, List.map_set]
        · rintro σ H3 ⟨o4, o5, e5, hf0, hff, rfl⟩
          rw [hln, List.take_length] at hff
          walk_at "sx"
          refine ⟨_, .inl ⟨SqL.of hff, fun v hv => ⟨v, sumT n ts, rfl, upd_same, by rw [sumT_len]; omega, fun H6 e6 => ?_⟩⟩⟩
          walk_at "sx"
          have e7 : Same H H6 := (e2.trans e5).trans ((Same.new hv).trans e6)
          have hff6 : H6 f = some (HO.lst ((sumT n ts).map V.int)) := e6 _ _ (Same.new hv _ _ hff)
          have hib : intsB (sumT n ts) = (sumT n ts).all isI := by
            unfold intsB
            rw [sumT_len, decide_eq_true (by omega), Bool.true_and]
          rw [hib]
          cases hb2 : (sumT n ts).all isI with
          | false =>
            rw [if_pos rfl]
            rw [hb2, if_neg (by decide)] at hkn
            simp only [hkn] at k
            exact k _ e7
          | true =>
            rw [if_neg (by decide)]
            rw [hb2, if_pos rfl] at hkn
            simp only [hkn] at k
            exact ⟨_, .inl ⟨SqL.of hff6, (k.go e7).now⟩⟩
end
end Tx

set_option maxRecDepth 100000
set_option maxHeartbeats 2000000
namespace Tx
open PySem PySem.Spec PyProof.Rows L2
local macro_rules | `(tactic| walk_at "sx") => `(tactic| simp only [cxK, tSeq, tIfS, tTest, tOp, tUn, tSl, tVar, tPart, tNoPart, tC, tRet, tRetN, tNext, tAsg, tPar, tPar3, tAug, tDrop, tB, tAnd, tOr, tNot, tAndV, tOrV, tNotV, tIf, tChain, tCons, tNil, tTup, tLst, tCall, tCB, tBM, tBM0, gName, gCons, gNil, gTup, rNe, rEq, rI0, rI, rU, rSlS, ipI, tRaiseErr, tMkErr, rAppend, tLstRg, tRg1, tRg2, L2.start, List.map_cons, List.map_nil, List.length_cons, List.length_nil, List.cons_append, List.nil_append, List.append_nil, List.getElem?_cons_zero, List.getElem?_cons_succ, List.set_cons_zero, List.set_cons_succ, Option.some.injEq, V.int.injEq, V.str.injEq, V.bl.injEq, V.ref.injEq, List.cons.injEq, exists_eq_left, exists_eq_left', exists_eq_right', exists_and_left, exists_and_right, true_and, and_true, Nat.reduceAdd, Nat.reduceSub, Nat.zero_add, List.replicate_zero, List.replicate_succ, ite_d, ite_nd, ite_b, scal, len_tx, tl_tx, eq_tx, app_tx, cut_nat, cut_to, cut_from, cut_t1, cut_t2, cut_t3, one_at, none_at, two_at, take1, take2, dr0, dr1, forall_eq', forall_eq, nc1, nc2, nc3, nca, Int.natCast_pos, Int.natCast_eq_zero, Bool.not_eq_true', Bool.not_eq_false', decide_eq_true_eq, decide_eq_false_iff_not, Bool.not_true, Bool.not_false, Decidable.not_not, WE, ex2, ex3, Nat.add_sub_add_left, Int.ofNat_lt, Int.natCast_inj, if_true, if_false, Bool.true_eq_false, Bool.false_eq_true, eq_self_iff_true, Nat.add_sub_cancel_left, Nat.add_sub_cancel, imp_false, not_false_eq_true, not_true_eq_false, forall_const, exists_and_self, reduceCtorEq, false_and, and_false, exists_false, List.cons_ne_nil, wipe, List.foldr_cons, List.foldr_nil, List.foldl_cons, List.foldl_nil, tYes, tCKw, tM1, gSub, tAugS, lit_e, lit_10, lit_32, lit_32_32, lit_32_43_32, lit_32_43_32_91_49_93, lit_32_45_32, lit_40, lit_40_41, lit_40_41_40_41, lit_40_48_32_49, lit_40_48_32_49_41, lit_40_48_32_49_41_40_50_32_49_41, lit_40_48_41, lit_41, lit_43, lit_44, lit_44_44, lit_44_51, lit_45, lit_45_48, lit_45_48_91_49_93, lit_48, lit_48_48, lit_48_49, lit_48_49_50_51_52_53_54_55_56_57, lit_49, lit_49_44_44_50, lit_50, lit_50_91_48_93_32_43_91_49_93, lit_57, lit_91, lit_91_48_49_93, lit_91_48_93, lit_91_50_93, lit_93, lit_107_105_110_100_115, lit_109_111_118_101, lit_112_97_114_115_101, lit_114_111_119, lit_116_111_108_100, lit_120])
local macro_rules | `(tactic| walk_at "sl") => `(tactic| simp only [lit_e, lit_10, lit_32, lit_32_32, lit_32_43_32, lit_32_43_32_91_49_93, lit_32_45_32, lit_40, lit_40_41, lit_40_41_40_41, lit_40_48_32_49, lit_40_48_32_49_41, lit_40_48_32_49_41_40_50_32_49_41, lit_40_48_41, lit_41, lit_43, lit_44, lit_44_44, lit_44_51, lit_45, lit_45_48, lit_45_48_91_49_93, lit_48, lit_48_48, lit_48_49, lit_48_49_50_51_52_53_54_55_56_57, lit_49, lit_49_44_44_50, lit_50, lit_50_91_48_93_32_43_91_49_93, lit_57, lit_91, lit_91_48_49_93, lit_91_48_93, lit_91_50_93, lit_93, lit_107_105_110_100_115, lit_109_111_118_101, lit_112_97_114_115_101, lit_114_111_119, lit_116_111_108_100, lit_120])
section
variable {w : World} {K : PySem.W.Frag} {mg : Str → Option Value} {base : Heap}
/-- a bag: three integers in a list -/
def IsBag (H : Hp) (g : Addr) : Prop := ∃ x y z : Int, H g = some (.lst [.int x, .int y, .int z])
theorem cutV_to (xs : List V) (j : Nat) : cutV xs none (some (j : Int)) = xs.take j := by
  unfold cutV
  rw [HT.sIx_none, HT.sIx_nat]
  simp only [List.drop_zero, Nat.sub_zero]
  by_cases h2 : j ≤ xs.length
  · rw [Nat.min_eq_left h2]
  · rw [Nat.min_eq_right (Nat.le_of_not_le h2), List.take_of_length_le (Nat.le_refl _), List.take_of_length_le (Nat.le_of_not_le h2)]
theorem ixL_of {K : PySem.W.Frag} {H : Hp} {Q : VK} {g : Addr} {xs : List V} {i : Int} {v : V} (h : SqL K H g xs) (hi : atI xs i = some v) (q : Q v H) : rIxL K (.ref g) (.int i) H Q := ⟨g, xs, i, v, rfl, rfl, h, hi, q⟩
def sp__law_bag (K : PySem.W.Frag) : Sp := fun vs H Q _ => ∃ (a : Addr) (ns : List Int) (i : Nat), vs = [.ref a, .int (i : Nat)] ∧ SqL K H a (ns.map V.int) ∧ ns.length ≤ 1000 ∧ i ≤ 1 ∧
  ∀ g H', Same H H' → H g = none → IsBag H' g → Q (.ref g) H'
theorem ok__law_bag (S : Pg K mg) : FnOk prog w K mg base CX0 1 S._law_bag.f S._law_bag.fd ["script", "spot"] (sp__law_bag K) := by
  refine S._law_bag.F.ok sc__law_bag (fun vs H Q E h => ?_) (fun cdv A outer s H vs Q E hr h => ?_)
  · obtain ⟨a, ns, i, rfl, _⟩ := h
    rfl
  · obtain ⟨a, ns, i, rfl, ha, hl, hi, k⟩ := h
    refine ⟨_, (pss_cons (ps_set (i := 2) sc__law_bag.nd rfl (Or.inl rfl) (pe_ifExp (pt_cmpR op_lt (pv 1) (pe_callB call_len_seq (by rfl) S.b_len (by decide +kernel) (pa_cons (pv 0) pa_nil)) (nomark _)) (pe_ix ix_list (pv 0) (pv 1) (fun _ _ => rfl)) (pe_op op_add (pe_op op_add (pe_callB (cr_sum rfl) (by rfl) S.b_sum (by decide +kernel) (pa_cons (pe_slice sl_list (pv 0) po_none (po_some pe_int)) pa_nil)) (pe_op op_mul pe_int (pv 1))) pe_int)))
  (pss_cons (ps_set (i := 3) sc__law_bag.nd rfl (Or.inl rfl) (pe_op op_mod (pe_callTy call_int1 (by rfl) S.b_int (by decide +kernel) (pa_cons (pe_callB call_abs (by rfl) S.b_abs (by decide +kernel) (pa_cons (pv 2) pa_nil)) pa_nil)) (pe_op op_powB (pe_op op_pow pe_int pe_int) pe_int)))
  (pss_cons (ps_set (i := 4) sc__law_bag.nd rfl (Or.inl rfl) (pe_op op_add (pe_op op_add (pe_op op_add (pe_op op_mul (pe_op op_mod (pe_callTy call_int1 (by rfl) S.b_int (by decide +kernel) (pa_cons (pv 3) pa_nil)) pe_int) pe_int) (pe_op op_mul pe_int (pv 1))) (pe_op op_mul pe_int (pe_callTy call_int1 (by rfl) S.b_int (by decide +kernel) (pa_cons (pe_cmpR op_lt (pv 2) pe_int (nomark _)) pa_nil)))) pe_int))
  (pss_one (ps_ret (pe_lst (pa_cons (pe_callB (call_max2 rfl) (by rfl) S.b_max (by decide +kernel) (pa_cons pe_int (pa_cons (pe_op op_sub (pv 3) (pe_op op_pow pe_int pe_int)) pa_nil))) (pa_cons (pe_op op_mod (pe_callTy call_int1 (by rfl) S.b_int (by decide +kernel) (pa_cons (pv 4) pa_nil)) pe_int) (pa_cons pe_int pa_nil))))))))), ?_⟩
    walk_at "sx"
    refine ⟨_, .inl ha, ?_⟩
    rw [List.length_map]
    have fin : ∀ (z : Int) (H1 : Hp), Same H H1 → CPow 10 45 ∧ CPowB (10 ^ Int.toNat 45) 13 ∧ 0 < ((10 : Int) ^ Int.toNat 45) ^ Int.toNat 13 ∧ CPow 10 18 := fun z H1 e => ⟨⟨by decide, by decide, by decide⟩, ⟨by decide, by decide +kernel⟩, by decide +kernel, ⟨by decide, by decide, by decide⟩⟩
    refine ⟨fun c => ?_, fun c => ?_⟩
    · refine ixL_of ha (xs := ns.map V.int) (atI_nat (v := .int ns[i]) (by rw [List.getElem?_map, List.getElem?_eq_getElem (by omega)]; rfl)) ?_
      walk_at "sx"
      obtain ⟨f1, f2, f3, f4⟩ := fin 0 H (Same.refl H)
      refine .inl ⟨f1, f2, f3, .inl ⟨by decide, .inr ⟨by decide, by decide⟩, .inl ⟨by decide, by decide⟩, .inr ⟨.inl ⟨by decide, by decide⟩, f4, .inl ⟨by decide, by decide, fun p hp => ?_⟩⟩⟩⟩
      exact k p _ (Same.new hp) hp ⟨_, _, _, upd_same⟩
    · refine ⟨a, _, rfl, ha, fun q hq => ?_⟩
      refine ⟨q, ns.take 1, rfl, SqL.of (by rw [upd_same, show cutV (ns.map V.int) none (some 1) = (ns.map V.int).take 1 from cutV_to _ 1, List.map_take]), ?_⟩
      walk_at "sx"
      obtain ⟨f1, f2, f3, f4⟩ := fin 0 H (Same.refl H)
      refine ⟨.inl ⟨by decide, by decide⟩, .inl ⟨f1, f2, f3, .inl ⟨by decide, .inr ⟨by decide, by decide⟩, .inl ⟨by decide, by decide⟩, .inr ⟨.inl ⟨by decide, by decide⟩, f4, .inl ⟨by decide, by decide, fun p hp => ?_⟩⟩⟩⟩⟩
      exact k p _ ((Same.new hq).trans (Same.new hp)) ((Same.new hq).free hp) ⟨_, _, _, upd_same⟩
def sp__law_grab : Sp := fun vs H Q _ => ∃ (g : Addr) (x y z t : Int), vs = [.ref g, .int t] ∧ H g = some (.lst [.int x, .int y, .int z]) ∧ 0 < t ∧ t < 1000000 ∧
  ∀ r x' y' z' : Int, 0 ≤ r → r < t → Q (.int r) (upd H g (.lst [.int x', .int y', .int z']))
theorem ok__law_grab (S : Pg K mg) : FnOk prog w K mg base CX0 1 S._law_grab.f S._law_grab.fd ["bag", "total"] sp__law_grab := by
  refine S._law_grab.F.ok sc__law_grab (fun vs H Q E h => ?_) (fun cdv A outer s H vs Q E hr h => ?_)
  · obtain ⟨g, x, y, z, t, rfl, _⟩ := h
    rfl
  · obtain ⟨g, x, y, z, t, rfl, hg, h1, h2, k⟩ := h
    refine ⟨_, (pss_cons (ps_if (pt_cmpR op_gt (pe_ix ix_list (pv 0) pe_int (fun _ _ => rfl)) pe_int (nomark _))
    (pss_cons (ps_set (i := 2) sc__law_grab.nd rfl (Or.inl rfl) (pe_op op_mod (pe_callTy call_int1 (by rfl) S.b_int (by decide +kernel) (pa_cons (pe_ix ix_list (pv 0) pe_int (fun _ _ => rfl)) pa_nil)) (pv 1)))
    (pss_cons (ps_asg (pe_op op_fdiv (pe_ix ix_list (pv 0) pe_int (fun _ _ => rfl)) (pv 1)) (pg_sub (pv 0) pe_int set_list))
    (pss_one (ps_ret (pv 2)))))
    pss_nil)
  (pss_cons (ps_asg (pe_op op_add (pe_ix ix_list (pv 0) pe_int (fun _ _ => rfl)) pe_int) (pg_sub (pv 0) pe_int set_list))
  (pss_cons (ps_set (i := 3) sc__law_grab.nd rfl (Or.inl rfl) (pe_op op_mod (pe_callTy call_int1 (by rfl) S.b_int (by decide +kernel) (pa_cons (pe_op op_add (pe_ix ix_list (pv 0) pe_int (fun _ _ => rfl)) (pe_op op_mul pe_int (pe_ix ix_list (pv 0) pe_int (fun _ _ => rfl)))) pa_nil)) pe_int))
  (pss_cons (ps_set (i := 4) sc__law_grab.nd rfl (Or.inl rfl) (pe_op op_add (pe_op op_mul (pe_op op_mod (pe_callTy call_int1 (by rfl) S.b_int (by decide +kernel) (pa_cons (pe_op op_mul (pv 3) (pv 3)) pa_nil)) pe_int) (pv 3)) (pe_op op_mul pe_int (pe_ix ix_list (pv 0) pe_int (fun _ _ => rfl)))))
  (pss_one (ps_ret (pe_op op_mod (pe_callTy call_int1 (by rfl) S.b_int (by decide +kernel) (pa_cons (pe_op op_fdiv (pe_op op_mod (pe_callTy call_int1 (by rfl) S.b_int (by decide +kernel) (pa_cons (pv 4) pa_nil)) pe_int) pe_int) pa_nil)) (pv 1)))))))), ?_⟩
    walk_at "sx"
    refine ixL_of (SqL.of hg) (v := .int x) rfl ?_
    walk_at "sx"
    refine ⟨fun c => ?_, fun c => ?_⟩
    · refine ixL_of (SqL.of hg) (v := .int x) rfl ?_
      walk_at "sx"
      refine .inl ⟨h1, ixL_of (SqL.of hg) (v := .int x) rfl ?_⟩
      walk_at "sx"
      refine ⟨⟨h1, by omega⟩, ?_⟩
      exact ⟨g, _, 0, 0, rfl, rfl, hg, rfl, k _ _ _ _ (Int.emod_nonneg _ (by omega)) (Int.emod_lt_of_pos _ h1)⟩
    · refine ixL_of (SqL.of hg) (v := .int z) rfl ?_
      walk_at "sx"
      refine ⟨g, _, 2, 2, rfl, rfl, hg, rfl, ?_⟩
      have hg2 : upd H g (.lst ([V.int x, V.int y, V.int z].set 2 (V.int (z + 1)))) g = some (.lst [V.int x, V.int y, V.int (z + 1)]) := upd_same
      refine ixL_of (SqL.of hg2) (v := .int y) rfl (ixL_of (SqL.of hg2) (v := .int (z + 1)) rfl ?_)
      walk_at "sx"
      generalize ho : (y + 1048637 * (z + 1)) % 2305843009213693951 = o
      have ho1 : 0 ≤ o ∧ o < 2305843009213693951 := by
        rw [← ho]
        exact ⟨Int.emod_nonneg _ (by decide), Int.emod_lt_of_pos _ (by decide)⟩
      have cm : CMul o o := .inl ⟨by omega, by omega⟩
      refine ⟨.inl ⟨by decide, by decide⟩, .inl ⟨by decide, cm, .inl ⟨by decide, .inr ⟨by omega, by omega⟩, ixL_of (SqL.of hg2) (v := .int (z + 1)) rfl ?_⟩⟩⟩
      walk_at "sx"
      exact ⟨.inl ⟨by decide, by decide⟩, .inl ⟨by decide, ⟨by decide, by decide⟩, .inl ⟨h1, k _ _ _ _ (Int.emod_nonneg _ (by omega)) (Int.emod_lt_of_pos _ h1)⟩⟩⟩
def sp__law_one_of (K : PySem.W.Frag) : Sp := fun vs H Q _ => ∃ (g b : Addr) (x y z : Int) (xs : List V), vs = [.ref g, .ref b] ∧ H g = some (.lst [.int x, .int y, .int z]) ∧ b ≠ g ∧ H b = some (.lst xs) ∧ xs ≠ [] ∧ xs.length < 1000000 ∧
  ∀ v, v ∈ xs → ∀ x' y' z' : Int, Q v (upd H g (.lst [.int x', .int y', .int z']))
theorem ok__law_one_of (S : Pg K mg) : FnOk prog w K mg base CX0 2 S._law_one_of.f S._law_one_of.fd ["bag", "items"] (sp__law_one_of K) := by
  refine S._law_one_of.F.ok sc__law_one_of (fun vs H Q E h => ?_) (fun cdv A outer s H vs Q E hr h => ?_)
  · obtain ⟨g, b, x, y, z, xs, rfl, _⟩ := h
    rfl
  · obtain ⟨g, b, x, y, z, xs, rfl, hg, hbg, hb, hne, hl, k⟩ := h
    refine ⟨_, (pss_one (ps_ret (pe_ix ix_list (pv 1) (pe_call (ok__law_grab S) (hr.mono (by decide)) rfl S._law_grab.m S._law_grab.F.kp S._law_grab.b .nil pass0 (pa_cons (pv 0) (pa_cons (pe_callB call_len_seq (by rfl) S.b_len (by decide +kernel) (pa_cons (pv 1) pa_nil)) pa_nil))) (fun _ _ => rfl)))), ?_⟩
    walk_at "sx"
    have hp : 0 < xs.length := List.length_pos_iff.mpr hne
    refine ⟨xs, .inl (SqL.of hb), g, x, y, z, xs.length, rfl, hg, by omega, by omega, fun r x' y' z' h0 h1 => ?_⟩
    obtain ⟨j, rfl⟩ := Int.eq_ofNat_of_zero_le h0
    have hj : j < xs.length := by omega
    exact ixL_of (SqL.of (by rw [upd_ne hbg]; exact hb)) (atI_nat (List.getElem?_eq_getElem hj)) (k _ (List.getElem_mem hj) _ _ _)
/-- all but the bag stays -/
def Bg (g : Addr) (H H' : Hp) : Prop := ∀ a u, a ≠ g → H a = some u → H' a = some u
theorem Bg.same {g : Addr} {H H' : Hp} (e : Same H H') : Bg g H H' := fun a u _ h => e a u h
theorem Bg.trans {g : Addr} {H H1 H2 : Hp} (e : Bg g H H1) (f : Bg g H1 H2) : Bg g H H2 := fun a u n h => f a u n (e a u n h)
theorem Bg.put {g : Addr} {H : Hp} {o : HO} : Bg g H (upd H g o) := fun a u n h => by rw [upd_ne n]; exact h
/-- the bag's own list, changed as it may be -/
def sp__law_number : Sp := fun vs H Q _ => ∃ (g : Addr), vs = [.ref g] ∧ IsBag H g ∧ ∀ (n : Int) H', Bg g H H' → IsBag H' g → isI n = true → Q (.int n) H'
theorem ok__law_number (S : Pg K mg) : FnOk prog w K mg base CX0 3 S._law_number.f S._law_number.fd ["bag"] sp__law_number := by
  refine S._law_number.F.ok sc__law_number (fun vs H Q E h => ?_) (fun cdv A outer s H vs Q E hr h => ?_)
  · obtain ⟨g, rfl, _⟩ := h
    rfl
  · obtain ⟨g, rfl, ⟨x, y, z, hg⟩, k⟩ := h
    refine ⟨_, (pss_one (ps_ret (pe_call (ok__law_one_of S) (hr.mono (by decide)) rfl S._law_one_of.m S._law_one_of.F.kp S._law_one_of.b .nil pass0 (pa_cons (pv 0) (pa_cons (pe_lst (pa_cons pe_int (pa_cons pe_int (pa_cons (pe_un un_neg pe_int) (pa_cons pe_int (pa_cons (pe_un un_neg pe_int) (pa_cons (pe_op op_sub (pe_op op_pow pe_int pe_int) pe_int) (pa_cons (pe_op op_sub pe_int (pe_op op_pow pe_int pe_int)) (pa_cons (pe_call (ok__law_grab S) (hr.mono (by decide)) rfl S._law_grab.m S._law_grab.F.kp S._law_grab.b .nil pass0 (pa_cons (pv 0) (pa_cons pe_int pa_nil))) pa_nil))))))))) pa_nil))))), ?_⟩
    walk_at "sx"
    refine ⟨⟨by decide, by decide, by decide⟩, ⟨by decide, by decide, by decide⟩, g, x, y, z, 999, rfl, hg, by decide, by decide, fun r x1 y1 z1 h0 h1 => ⟨by decide, fun p hp => ?_⟩⟩
    have hgp : g ≠ p := ne_of_none upd_same hp
    refine ⟨g, p, x1, y1, z1, _, rfl, by rw [upd_ne hgp, upd_same], Ne.symm hgp, upd_same, by simp, (show 8 < 1000000 by decide), fun v hv x2 y2 z2 => ?_⟩
    have all : ∃ n : Int, v = .int n ∧ isI n = true := by
      simp only [List.mem_cons, List.not_mem_nil, or_false] at hv
      have hr : isI r = true := decide_eq_true ⟨by omega, by omega⟩
      rcases hv with rfl | rfl | rfl | rfl | rfl | rfl | rfl | rfl
      · exact ⟨_, rfl, by decide⟩
      · exact ⟨_, rfl, by decide⟩
      · exact ⟨_, rfl, by decide⟩
      · exact ⟨_, rfl, by decide⟩
      · exact ⟨_, rfl, by decide⟩
      · exact ⟨_, rfl, by decide⟩
      · exact ⟨_, rfl, by decide⟩
      · exact ⟨_, rfl, hr⟩
    obtain ⟨n, rfl, hn⟩ := all
    exact k n _ ((Bg.put.trans (Bg.same (Same.new hp))).trans Bg.put) ⟨_, _, _, upd_same⟩ hn
end
end Tx

set_option maxRecDepth 100000
set_option maxHeartbeats 2000000
namespace Tx
open PySem PySem.Spec PyProof.Rows L2
local macro_rules | `(tactic| walk_at "sx") => `(tactic| simp only [cxK, tSeq, tIfS, tTest, tOp, tUn, tSl, tVar, tPart, tNoPart, tC, tRet, tRetN, tNext, tAsg, tPar, tPar3, tAug, tDrop, tB, tAnd, tOr, tNot, tAndV, tOrV, tNotV, tIf, tChain, tCons, tNil, tTup, tLst, tCall, tCB, tBM, tBM0, gName, gCons, gNil, gTup, rNe, rEq, rI0, rI, rU, rSlS, ipI, tRaiseErr, tMkErr, rAppend, tLstRg, tRg1, tRg2, L2.start, List.map_cons, List.map_nil, List.length_cons, List.length_nil, List.cons_append, List.nil_append, List.append_nil, List.getElem?_cons_zero, List.getElem?_cons_succ, List.set_cons_zero, List.set_cons_succ, Option.some.injEq, V.int.injEq, V.str.injEq, V.bl.injEq, V.ref.injEq, List.cons.injEq, exists_eq_left, exists_eq_left', exists_eq_right', exists_and_left, exists_and_right, true_and, and_true, Nat.reduceAdd, Nat.reduceSub, Nat.zero_add, List.replicate_zero, List.replicate_succ, ite_d, ite_nd, ite_b, scal, len_tx, tl_tx, eq_tx, app_tx, cut_nat, cut_to, cut_from, cut_t1, cut_t2, cut_t3, one_at, none_at, two_at, take1, take2, dr0, dr1, forall_eq', forall_eq, nc1, nc2, nc3, nca, Int.natCast_pos, Int.natCast_eq_zero, Bool.not_eq_true', Bool.not_eq_false', decide_eq_true_eq, decide_eq_false_iff_not, Bool.not_true, Bool.not_false, Decidable.not_not, WE, ex2, ex3, Nat.add_sub_add_left, Int.ofNat_lt, Int.natCast_inj, if_true, if_false, Bool.true_eq_false, Bool.false_eq_true, eq_self_iff_true, Nat.add_sub_cancel_left, Nat.add_sub_cancel, imp_false, not_false_eq_true, not_true_eq_false, forall_const, exists_and_self, reduceCtorEq, false_and, and_false, exists_false, List.cons_ne_nil, wipe, List.foldr_cons, List.foldr_nil, List.foldl_cons, List.foldl_nil, tYes, tCKw, tM1, gSub, tAugS, lit_e, lit_10, lit_32, lit_32_32, lit_32_43_32, lit_32_43_32_91_49_93, lit_32_45_32, lit_40, lit_40_41, lit_40_41_40_41, lit_40_48_32_49, lit_40_48_32_49_41, lit_40_48_32_49_41_40_50_32_49_41, lit_40_48_41, lit_41, lit_43, lit_44, lit_44_44, lit_44_51, lit_45, lit_45_48, lit_45_48_91_49_93, lit_48, lit_48_48, lit_48_49, lit_48_49_50_51_52_53_54_55_56_57, lit_49, lit_49_44_44_50, lit_50, lit_50_91_48_93_32_43_91_49_93, lit_57, lit_91, lit_91_48_49_93, lit_91_48_93, lit_91_50_93, lit_93, lit_107_105_110_100_115, lit_109_111_118_101, lit_112_97_114_115_101, lit_114_111_119, lit_116_111_108_100, lit_120])
local macro_rules | `(tactic| walk_at "sl") => `(tactic| simp only [lit_e, lit_10, lit_32, lit_32_32, lit_32_43_32, lit_32_43_32_91_49_93, lit_32_45_32, lit_40, lit_40_41, lit_40_41_40_41, lit_40_48_32_49, lit_40_48_32_49_41, lit_40_48_32_49_41_40_50_32_49_41, lit_40_48_41, lit_41, lit_43, lit_44, lit_44_44, lit_44_51, lit_45, lit_45_48, lit_45_48_91_49_93, lit_48, lit_48_48, lit_48_49, lit_48_49_50_51_52_53_54_55_56_57, lit_49, lit_49_44_44_50, lit_50, lit_50_91_48_93_32_43_91_49_93, lit_57, lit_91, lit_91_48_49_93, lit_91_48_93, lit_91_50_93, lit_93, lit_107_105_110_100_115, lit_109_111_118_101, lit_112_97_114_115_101, lit_114_111_119, lit_116_111_108_100, lit_120])
section
variable {w : World} {K : PySem.W.Frag} {mg : Str → Option Value} {base : Heap}
def sp__law_figures : Sp := fun vs H Q _ => ∃ (l : List Nat) (i : Nat), vs = [tx l, .int i] ∧ l.length ≤ 100000 ∧ Q (.int (figs l i : Nat)) H
theorem ok__law_figures (S : Pg K mg) : FnOk prog w K mg base CX0 1 S._law_figures.f S._law_figures.fd ["text", "at"] sp__law_figures := by
  refine S._law_figures.F.ok sc__law_figures (fun vs H Q E h => ?_) (fun cdv A outer s H vs Q E hr h => ?_)
  · obtain ⟨l, i, rfl, _⟩ := h
    rfl
  · obtain ⟨l, i, rfl, hl, k⟩ := h
    refine ⟨_, (pss_cons (ps_if (pt_cmpR op_eq (pe_slice sl_str (pv 0) (po_some (pv 1)) (po_some (pe_op op_add (pv 1) pe_int))) pe_str (nomark _))
    (pss_one (ps_ret pe_int))
    pss_nil)
  (pss_cons (ps_set (i := 2) sc__law_figures.nd rfl (Or.inl rfl) pe_int)
  (pss_cons (ps_while PassesOwn.never (PW.pt (pw_and (pt_cmpR op_lt (pv 2) pe_int (nomark _)) (pw_and (pt_cmpR op_ne (pe_slice sl_str (pv 0) (po_some (pe_op op_add (pv 1) (pv 2))) (po_some (pe_op op_add (pe_op op_add (pv 1) (pv 2)) pe_int))) pe_str (nomark _)) (pw_and1 (pt_cmpR op_in_sign (pe_ix ix_str (pv 0) (pe_op op_add (pv 1) (pv 2)) (fun _ _ => rfl)) pe_str rfl)))))
    (pss_one (ps_set (i := 2) sc__law_figures.nd rfl (Or.inl rfl) (pe_op op_add (pv 2) pe_int))))
  (pss_one (ps_ret (pv 2)))))), ?_⟩
    walk_at "sx"
    refine ⟨sz_of hl, fun c => ?_, fun c => ?_⟩
    · have e : figs l i = 1 := by
        unfold figs mx
        rw [if_pos c]
        have e2 : l.drop i = 48 :: l.drop (i + 1) := by
          have hi : i < l.length := (List.getElem?_eq_some_iff.mp c).1
          have h48 : l[i] = 48 := (List.getElem?_eq_some_iff.mp c).2
          rw [← h48, List.getElem_cons_drop]
        rw [e2]
        rfl
      rw [e] at k
      exact k
    · refine ⟨fun m σ H' => H' = H ∧ ∃ j : Nat, j ≤ figs l i ∧ m = 61 - j ∧ σ = [some (tx l), some (.int i), some (.int (j : Nat))], ⟨_, rfl, 0, Nat.zero_le _, rfl, rfl⟩, ?_⟩
      rintro m σ H' ⟨rfl, j, hj, rfl, rfl⟩
      have hmx : mx l i = 60 := if_neg c
      walk_at "sx"
      refine ⟨fun h60 => ⟨sz_of hl, fun hn => ?_, fun hn => ?_⟩, fun h60 => ?_⟩
      · obtain ⟨c1, hc1⟩ := Option.ne_none_iff_exists'.mp hn
        refine ixS_of hl hc1 ⟨_, rfl, fun hd => ?_, fun hd => ?_⟩
        · have h1 := lead_next (n := mx l i) hj (by rw [hmx]; omega) (by rw [List.getElem?_drop]; exact hc1) (digs.mp hd)
          exact ⟨_, fun _ _ h => h, 61 - (j + 1), by omega, rfl, j + 1, h1, rfl, rfl⟩
        · have e : figs l i = j := lead_end hj (by rw [List.getElem?_drop]; exact hc1) (fun z => hd (digs.mpr z))
          rw [e] at k
          exact k
      · have hge : l.length ≤ i + j := List.getElem?_eq_none_iff.mp hn
        have := figs_len l i
        have e : figs l i = j := by omega
        rw [e] at k
        exact k
      · have := figs_60 l i
        have e : figs l i = j := by omega
        rw [e] at k
        exact k
def sp__law_term_from : Sp := fun vs H Q _ => ∃ (l : List Nat) (i : Nat), vs = [tx l, .int i] ∧ l.length ≤ 100000 ∧
  match trm l i with
  | .error e => ∀ p H' (u v w : Int), Same H H' → H p = none → H' p = some (.tup [.int (e : Nat), .int u, .int v, .int w]) → Q (.ref p) H'
  | .ok (x, y, j) => ∀ p H', Same H H' → H p = none → H' p = some (.tup [.non, .int x, .int y, .int (j : Nat)]) → Q (.ref p) H'
theorem ok__law_term_from (S : Pg K mg) : FnOk prog w K mg base CX0 2 S._law_term_from.f S._law_term_from.fd ["text", "here"] sp__law_term_from := by
  refine S._law_term_from.F.ok sc__law_term_from (fun vs H Q E h => ?_) (fun cdv A outer s H vs Q E hr h => ?_)
  · obtain ⟨l, i, rfl, _⟩ := h
    rfl
  · obtain ⟨l, i, rfl, hl, k⟩ := h
    refine ⟨_, (pss_cons (ps_set (i := 2) sc__law_term_from.nd rfl (Or.inl rfl) pe_int)
  (pss_cons (ps_set (i := 3) sc__law_term_from.nd rfl (Or.inl rfl) (pe_call (ok__law_figures S) (hr.mono (by decide)) rfl S._law_figures.m S._law_figures.F.kp S._law_figures.b .nil pass0 (pa_cons (pv 0) (pa_cons (pv 1) pa_nil))))
  (pss_cons (ps_if (pt_cmpR op_gt (pv 3) pe_int (nomark _))
    (pss_one (ps_par (i := 2) (j := 1) (by rfl) sc__law_term_from.nd rfl rfl (by decide) rfl rfl (pa_cons (pe_callTy call_int_str (by rfl) S.b_int (by decide +kernel) (pa_cons (pe_slice sl_str (pv 0) (po_some (pv 1)) (po_some (pe_op op_add (pv 1) (pv 3)))) pa_nil)) (pa_cons (pe_op op_add (pv 1) (pv 3)) pa_nil)) (by rfl)))
    pss_nil)
  (pss_cons (ps_if (pt_cmpR op_ne (pe_slice sl_str (pv 0) (po_some (pv 1)) (po_some (pe_op op_add (pv 1) pe_int))) pe_str (nomark _))
    (pss_one (ps_ret (pe_tup (pa_cons (pv 1) (pa_cons pe_int (pa_cons pe_int (pa_cons pe_int pa_nil)))))))
    pss_nil)
  (pss_cons (ps_set (i := 3) sc__law_term_from.nd rfl (Or.inl rfl) (pe_call (ok__law_figures S) (hr.mono (by decide)) rfl S._law_figures.m S._law_figures.F.kp S._law_figures.b .nil pass0 (pa_cons (pv 0) (pa_cons (pe_op op_add (pv 1) pe_int) pa_nil))))
  (pss_cons (ps_if (pt_cmpR op_eq (pv 3) pe_int (nomark _))
    (pss_one (ps_ret (pe_tup (pa_cons (pe_op op_add (pv 1) pe_int) (pa_cons pe_int (pa_cons pe_int (pa_cons pe_int pa_nil)))))))
    pss_nil)
  (pss_cons (ps_set (i := 4) sc__law_term_from.nd rfl (Or.inl rfl) (pe_op op_add (pe_op op_add (pv 1) pe_int) (pv 3)))
  (pss_one (ps_ret (pe_tup (pa_cons (pe_ifExp (pt_cmpR op_eq (pe_slice sl_str (pv 0) (po_some (pv 4)) (po_some (pe_op op_add (pv 4) pe_int))) pe_str (nomark _)) pe_non (pv 4)) (pa_cons (pv 2) (pa_cons (pe_callTy call_int_str (by rfl) S.b_int (by decide +kernel) (pa_cons (pe_slice sl_str (pv 0) (po_some (pe_op op_add (pv 1) pe_int)) (po_some (pv 4))) pa_nil)) (pa_cons (pe_op op_add (pv 4) pe_int) pa_nil)))))))))))))), ?_⟩
    walk_at "sx"
    refine ⟨l, i, rfl, hl, ?_⟩
    walk_at "sx"
    refine ⟨fun c0 => ⟨sz_of hl, num l i, num_read l i _ rfl (by omega), ?_, ?_⟩, fun c0 => ?_⟩
    · rw [List.length_take]
      have := figs_60 l i
      omega
    · have c9 : l[i]? ≠ some 91 := fun z => by
        have := figs_no z (by decide)
        omega
      have hk : trm l i = trm2 l (num l i) (i + figs l i) := by
        unfold trm
        rw [if_neg c9, if_neg (by omega)]
      refine ⟨sz_of hl, fun c => ⟨by decide, fun p hp => ?_⟩, fun c => ⟨l, _, rfl, hl, ?_⟩⟩
      · have e : trm l i = .error (i + figs l i) := by
          rw [hk]
          unfold trm2
          rw [if_neg c]
        rw [e] at k
        exact k p _ _ _ _ (Same.new hp) hp upd_same
      · walk_at "sx"
        refine ⟨fun c2 => ⟨by decide, fun p hp => ?_⟩, fun c2 => ⟨sz_of hl, fun c3 => ⟨sz_of hl, _, num_read l _ _ rfl c2, ?_, by decide, fun p hp => ?_⟩, fun c3 => ⟨sz_of hl, _, num_read l _ _ rfl c2, ?_, by decide, fun p hp => ?_⟩⟩⟩
        · have e : trm l i = .error (i + figs l i + 1) := by
            rw [hk]
            unfold trm2
            rw [if_pos c, if_pos c2]
          rw [e] at k
          exact k p _ _ _ _ (Same.new hp) hp upd_same
        · rw [List.length_take]
          have := figs_60 l (i + figs l i + 1)
          omega
        · have e : trm l i = .ok (num l i, num l (i + figs l i + 1), i + figs l i + 1 + figs l (i + figs l i + 1) + 1) := by
            rw [hk]
            unfold trm2
            rw [if_pos c, if_neg c2, if_pos c3]
          rw [e] at k
          exact k p _ (Same.new hp) hp upd_same
        · rw [List.length_take]
          have := figs_60 l (i + figs l i + 1)
          omega
        · have e : trm l i = .error (i + figs l i + 1 + figs l (i + figs l i + 1)) := by
            rw [hk]
            unfold trm2
            rw [if_pos c, if_neg c2, if_neg c3]
          rw [e] at k
          exact k p _ _ _ _ (Same.new hp) hp upd_same
    · by_cases c9 : l[i]? = some 91
      · have hk : trm l i = trm2 l 1 i := by
          unfold trm
          rw [if_pos c9]
        refine ⟨sz_of hl, fun c => ⟨by decide, fun p hp => ?_⟩, fun c => ⟨l, _, rfl, hl, ?_⟩⟩
        · have e : trm l i = .error (i) := by
            rw [hk]
            unfold trm2
            rw [if_neg c]
          rw [e] at k
          exact k p _ _ _ _ (Same.new hp) hp upd_same
        · walk_at "sx"
          refine ⟨fun c2 => ⟨by decide, fun p hp => ?_⟩, fun c2 => ⟨sz_of hl, fun c3 => ⟨sz_of hl, _, num_read l _ _ rfl c2, ?_, by decide, fun p hp => ?_⟩, fun c3 => ⟨sz_of hl, _, num_read l _ _ rfl c2, ?_, by decide, fun p hp => ?_⟩⟩⟩
          · have e : trm l i = .error (i + 1) := by
              rw [hk]
              unfold trm2
              rw [if_pos c, if_pos c2]
            rw [e] at k
            exact k p _ _ _ _ (Same.new hp) hp upd_same
          · rw [List.length_take]
            have := figs_60 l (i + 1)
            omega
          · have e : trm l i = .ok (1, num l (i + 1), i + 1 + figs l (i + 1) + 1) := by
              rw [hk]
              unfold trm2
              rw [if_pos c, if_neg c2, if_pos c3]
            rw [e] at k
            exact k p _ (Same.new hp) hp upd_same
          · rw [List.length_take]
            have := figs_60 l (i + 1)
            omega
          · have e : trm l i = .error (i + 1 + figs l (i + 1)) := by
              rw [hk]
              unfold trm2
              rw [if_pos c, if_neg c2, if_neg c3]
            rw [e] at k
            exact k p _ _ _ _ (Same.new hp) hp upd_same
      · refine ⟨sz_of hl, fun c => ⟨by decide, fun p hp => ?_⟩, fun c => absurd c c9⟩
        have e : trm l i = .error i := by
          unfold trm
          rw [if_neg c9, if_pos (by omega)]
        rw [e] at k
        exact k p _ _ _ _ (Same.new hp) hp upd_same
end
end Tx

set_option maxRecDepth 100000
set_option maxHeartbeats 2000000
namespace Tx
open PySem PySem.Spec PyProof.Rows L2
local macro_rules | `(tactic| walk_at "sx") => `(tactic| simp only [cxK, tSeq, tIfS, tTest, tOp, tUn, tSl, tVar, tPart, tNoPart, tC, tRet, tRetN, tNext, tAsg, tPar, tPar3, tAug, tDrop, tB, tAnd, tOr, tNot, tAndV, tOrV, tNotV, tIf, tChain, tCons, tNil, tTup, tLst, tCall, tCB, tBM, tBM0, gName, gCons, gNil, gTup, rNe, rEq, rI0, rI, rU, rSlS, ipI, tRaiseErr, tMkErr, rAppend, tLstRg, tRg1, tRg2, L2.start, List.map_cons, List.map_nil, List.length_cons, List.length_nil, List.cons_append, List.nil_append, List.append_nil, List.getElem?_cons_zero, List.getElem?_cons_succ, List.set_cons_zero, List.set_cons_succ, Option.some.injEq, V.int.injEq, V.str.injEq, V.bl.injEq, V.ref.injEq, List.cons.injEq, exists_eq_left, exists_eq_left', exists_eq_right', exists_and_left, exists_and_right, true_and, and_true, Nat.reduceAdd, Nat.reduceSub, Nat.zero_add, List.replicate_zero, List.replicate_succ, ite_d, ite_nd, ite_b, scal, len_tx, tl_tx, eq_tx, app_tx, cut_nat, cut_to, cut_from, cut_t1, cut_t2, cut_t3, one_at, none_at, two_at, take1, take2, dr0, dr1, forall_eq', forall_eq, nc1, nc2, nc3, nca, Int.natCast_pos, Int.natCast_eq_zero, Bool.not_eq_true', Bool.not_eq_false', decide_eq_true_eq, decide_eq_false_iff_not, Bool.not_true, Bool.not_false, Decidable.not_not, WE, ex2, ex3, Nat.add_sub_add_left, Int.ofNat_lt, Int.natCast_inj, if_true, if_false, Bool.true_eq_false, Bool.false_eq_true, eq_self_iff_true, Nat.add_sub_cancel_left, Nat.add_sub_cancel, imp_false, not_false_eq_true, not_true_eq_false, forall_const, exists_and_self, reduceCtorEq, false_and, and_false, exists_false, List.cons_ne_nil, wipe, List.foldr_cons, List.foldr_nil, List.foldl_cons, List.foldl_nil, tYes, tCKw, tM1, gSub, tAugS, lit_e, lit_10, lit_32, lit_32_32, lit_32_43_32, lit_32_43_32_91_49_93, lit_32_45_32, lit_40, lit_40_41, lit_40_41_40_41, lit_40_48_32_49, lit_40_48_32_49_41, lit_40_48_32_49_41_40_50_32_49_41, lit_40_48_41, lit_41, lit_43, lit_44, lit_44_44, lit_44_51, lit_45, lit_45_48, lit_45_48_91_49_93, lit_48, lit_48_48, lit_48_49, lit_48_49_50_51_52_53_54_55_56_57, lit_49, lit_49_44_44_50, lit_50, lit_50_91_48_93_32_43_91_49_93, lit_57, lit_91, lit_91_48_49_93, lit_91_48_93, lit_91_50_93, lit_93, lit_107_105_110_100_115, lit_109_111_118_101, lit_112_97_114_115_101, lit_114_111_119, lit_116_111_108_100, lit_120])
local macro_rules | `(tactic| walk_at "sl") => `(tactic| simp only [lit_e, lit_10, lit_32, lit_32_32, lit_32_43_32, lit_32_43_32_91_49_93, lit_32_45_32, lit_40, lit_40_41, lit_40_41_40_41, lit_40_48_32_49, lit_40_48_32_49_41, lit_40_48_32_49_41_40_50_32_49_41, lit_40_48_41, lit_41, lit_43, lit_44, lit_44_44, lit_44_51, lit_45, lit_45_48, lit_45_48_91_49_93, lit_48, lit_48_48, lit_48_49, lit_48_49_50_51_52_53_54_55_56_57, lit_49, lit_49_44_44_50, lit_50, lit_50_91_48_93_32_43_91_49_93, lit_57, lit_91, lit_91_48_49_93, lit_91_48_93, lit_91_50_93, lit_93, lit_107_105_110_100_115, lit_109_111_118_101, lit_112_97_114_115_101, lit_114_111_119, lit_116_111_108_100, lit_120])
section
variable {w : World} {K : PySem.W.Frag} {mg : Str → Option Value} {base : Heap}
/-- what a reader answers -/
inductive Oc
  | parse (e : Nat)
  | own (s : List Nat)
  | told (f : List Int)
def OcAt (H : Hp) (p : Addr) : Oc → Prop
  | .parse e => H p = some (.tup [tx [112, 97, 114, 115, 101], .int (e : Nat)])
  | .own s => H p = some (.tup [tx s])
  | .told f => ∃ q, H p = some (.tup [tx [116, 111, 108, 100], .ref q]) ∧ H q = some (.tup (f.map V.int))
theorem OcAt.go {H H' : Hp} {p : Addr} {o : Oc} (h : OcAt H p o) (e : Same H H') : OcAt H' p o := by
  cases o with
  | parse i => exact e _ _ h
  | own s => exact e _ _ h
  | told f =>
    obtain ⟨q, h1, h2⟩ := h
    exact ⟨q, e _ _ h1, e _ _ h2⟩
def okOc (H : Hp) (Q : VK) (o : Oc) : Prop := ∀ p H', Same H H' → H p = none → OcAt H' p o → Q (.ref p) H'
theorem okOc.go {H H1 : Hp} {Q : VK} {o : Oc} (k : okOc H Q o) (e : Same H H1) : okOc H1 Q o := fun p H' e' h h' => k p H' (e.trans e') (e.free h) h'
def rowOc (l : List Nat) : Oc := match row l 0 [] with
  | .error e => .parse e
  | .ok xs => if 60 < xs.length then .own [114, 111, 119] else .told xs
structure RowJ (l : List Nat) (H : Hp) (f : Addr) (m : Nat) (σ : L2.St) (H' : Hp) : Prop where
  ex : ∃ (acc : List Int) (j : Nat) (o4 o5 : Option V), Same H H' ∧ H f = none ∧ H' f = some (.lst (acc.map V.int)) ∧ acc.length ≤ j ∧ j ≤ l.length ∧ m = l.length - j ∧
    row l 0 [] = row l j acc ∧ σ = [some (tx l), some (.ref f), some (.int (j : Nat)), some (.bl true), o4, o5]
theorem sgn_neg {l : List Nat} {j : Nat} (c : l[j]? = some 45) : sgn l j = if l[j + 1]? = some 48 ∨ figs l (j + 1) = 0 then .error (j + 1) else .ok (-num l (j + 1), j + 1 + figs l (j + 1)) := by
  unfold sgn
  rw [if_pos c]
theorem sgn_pos {l : List Nat} {j : Nat} (c : l[j]? ≠ some 45) : sgn l j = if figs l j = 0 then .error j else .ok (num l j, j + figs l j) := by
  unfold sgn
  rw [if_neg c]
def sp__law_row_read : Sp := fun vs H Q _ => ∃ (l : List Nat), vs = [tx l] ∧ l.length ≤ 3000 ∧ okOc H Q (rowOc l)
theorem ok__law_row_read (S : Pg K mg) : FnOk prog w K mg base CX0 2 S._law_row_read.f S._law_row_read.fd ["text"] sp__law_row_read := by
  refine S._law_row_read.F.ok sc__law_row_read (fun vs H Q E h => ?_) (fun cdv A outer s H vs Q E hr h => ?_)
  · obtain ⟨l, rfl, _⟩ := h
    rfl
  · obtain ⟨l, rfl, hl, k⟩ := h
    refine ⟨_, (pss_cons (ps_par3 (i := 1) (j := 2) (l := 3) (by rfl) sc__law_row_read.nd rfl rfl rfl (by decide) (by decide) (by decide) rfl rfl rfl (pa_cons (pe_lst pa_nil) (pa_cons pe_int (pa_cons pe_bl pa_nil))) (by rfl))
  (pss_cons (ps_while PassesOwn.never (pt_val (pv 3))
    (pss_cons (ps_set (i := 4) sc__law_row_read.nd rfl (Or.inl rfl) pe_int)
    (Evl.pss_cut (ps_if (pt_cmpR op_eq (pe_slice sl_str (pv 0) (po_some (pv 2)) (po_some (pe_op op_add (pv 2) pe_int))) pe_str (nomark _))
      (pss_one (ps_par (i := 4) (j := 2) (by rfl) sc__law_row_read.nd rfl rfl (by decide) rfl rfl (pa_cons (pe_un un_neg pe_int) (pa_cons (pe_op op_add (pv 2) pe_int) pa_nil)) (by rfl)))
      pss_nil)
    (pss_cons (ps_set (i := 5) sc__law_row_read.nd rfl (Or.inl rfl) (pe_call (ok__law_figures S) (hr.mono (by decide)) rfl S._law_figures.m S._law_figures.F.kp S._law_figures.b .nil pass0 (pa_cons (pv 0) (pa_cons (pv 2) pa_nil))))
    (Evl.pss_cut (ps_if (PW.pt (pw_or (pt_cmpR op_eq (pv 5) pe_int (nomark _)) (pw_or1 (PW.pt (pw_and (pt_cmpR op_lt (pv 4) pe_int (nomark _)) (pw_and1 (pt_cmpR op_eq (pe_ix ix_str (pv 0) (pv 2) (fun _ _ => rfl)) pe_str (nomark _))))))))
      (pss_one (ps_ret (pe_tup (pa_cons pe_str (pa_cons (pv 2) pa_nil)))))
      pss_nil)
    (pss_cons (ps_expr (pe_bm PySem.F.plainAttrs_list PySem.F.slot_list_append PySem.F.type_list_append mt_append (pv 1) (pa_cons (pe_op op_mul (pv 4) (pe_callTy call_int_str (by rfl) S.b_int (by decide +kernel) (pa_cons (pe_slice sl_str (pv 0) (po_some (pv 2)) (po_some (pe_op op_add (pv 2) (pv 5)))) pa_nil))) pa_nil)))
    (pss_cons (ps_set (i := 2) sc__law_row_read.nd rfl (Or.inl rfl) (pe_op op_add (pv 2) (pv 5)))
    (pss_cons (ps_if (pt_cmpR op_eq (pv 2) (pe_callB call_len_str (by rfl) S.b_len (by decide +kernel) (pa_cons (pv 0) pa_nil)) (nomark _))
      (pss_one (ps_ret (pe_ifExp (pt_cmpR op_le (pe_callB call_len_seq (by rfl) S.b_len (by decide +kernel) (pa_cons (pv 1) pa_nil)) pe_int (nomark _)) (pe_tup (pa_cons pe_str (pa_cons (pe_callTy call_tuple_of (by rfl) S.b_tuple (by decide +kernel) (pa_cons (pv 1) pa_nil)) pa_nil))) (pe_tup (pa_cons pe_str pa_nil)))))
      pss_nil)
    (pss_cons (ps_if (pt_cmpR op_ne (pe_ix ix_str (pv 0) (pv 2) (fun _ _ => rfl)) pe_str (nomark _))
      (pss_one (ps_ret (pe_tup (pa_cons pe_str (pa_cons (pv 2) pa_nil)))))
      pss_nil)
    (pss_one (ps_set (i := 2) sc__law_row_read.nd rfl (Or.inl rfl) (pe_op op_add (pv 2) pe_int))))))))))))
  (pss_one (ps_ret (pe_tup (pa_cons pe_str pa_nil)))))), ?_⟩
    walk_at "sx"
    refine ⟨Nat.zero_le _, fun f hf => ?_⟩
    refine ⟨RowJ l H f, ⟨_, ⟨[], 0, none, none, Same.new hf, hf, upd_same, Nat.le_refl _, Nat.zero_le _, rfl, rfl, rfl⟩⟩, ?_⟩
    rintro m σ H1 ⟨acc, j, o4, o5, e1, hf0, hff, hcl, hj, rfl, hc, rfl⟩
    walk_at "sx"
    refine ⟨?_, fun h => h.elim⟩
    refine ⟨_, fun _ _ h => h, ?_⟩
    refine ⟨fun σ' H' => H' = H1 ∧ ∃ (sg : Int) (i : Nat), (sg = 1 ∨ sg = -1) ∧ j ≤ i ∧ sgn l j = (if figs l i = 0 ∨ (sg < 0 ∧ l[i]? = some 48) then .error i else .ok (sg * num l i, i + figs l i)) ∧ σ' = [some (tx l), some (.ref f), some (.int (i : Nat)), some (.bl true), some (.int sg), o5], ?_, ?_⟩
    · walk_at "sx"
      refine ⟨sz_of (by omega), fun c => ⟨-1, .inr rfl, j + 1, by omega, ?_, rfl, rfl⟩, fun c => ⟨1, .inl rfl, j, Nat.le_refl _, ?_, rfl, rfl⟩⟩
      · rw [sgn_neg c]
        by_cases c2 : figs l (j + 1) = 0
        · rw [if_pos (.inr c2), if_pos (.inl c2)]
        · by_cases c3 : l[j + 1]? = some 48
          · rw [if_pos (.inl c3), if_pos (.inr ⟨by decide, c3⟩)]
          · rw [if_neg (fun z => z.elim c3 c2), if_neg (fun z => z.elim c2 fun y => c3 y.2), Int.neg_one_mul]
      · rw [sgn_pos c]
        by_cases c2 : figs l j = 0
        · rw [if_pos c2, if_pos (.inl c2)]
        · rw [if_neg c2, if_neg (fun z => z.elim c2 fun y => absurd y.1 (by decide)), Int.one_mul]
    rintro σ' H' ⟨rfl, sg, i, hsg, hji, hs, rfl⟩
    unfold rowOc at k
    rw [hc] at k
    walk_at "sx"
    refine ⟨l, i, rfl, by omega, ?_⟩
    have bad : sgn l j = .error i → okOc H' Q (.parse i) := fun h => by
      rw [row_err h] at k
      exact k.go e1
    have badT : sgn l j = .error i → ∀ p, H' p = none → Q (V.ref p) (upd H' p (HO.tup [V.str { cps := #[112, 97, 114, 115, 101] }, V.int (i : Nat)])) := fun h p hp => bad h p _ (Same.new hp) hp upd_same
    refine ⟨fun σ' H'' => H'' = H' ∧ sgn l j = .ok (sg * num l i, i + figs l i) ∧ figs l i ≠ 0 ∧ σ' = [some (tx l), some (.ref f), some (.int (i : Nat)), some (.bl true), some (.int sg), some (.int (figs l i : Nat))], ?_, ?_⟩
    · walk_at "sx"
      refine ⟨fun c => ⟨by decide, badT (by rw [hs, if_pos (.inl c)])⟩, fun c => ⟨fun c2 => ?_, fun c2 => ⟨?_, c⟩⟩⟩
      · obtain ⟨c1, hc1⟩ : ∃ c1, l[i]? = some c1 := ⟨l[i]'(figs_in c), List.getElem?_eq_getElem (figs_in c)⟩
        refine ixS_of (by omega) hc1 ?_
        walk_at "sx"
        refine ⟨fun c3 => ⟨by decide, badT ?_⟩, fun c3 => ⟨?_, c⟩⟩
        · rw [hs, if_pos (.inr ⟨c2, by rw [hc1, c3]⟩)]
        · rw [hs, if_neg]
          rintro (z | z)
          · exact c z
          · rw [hc1] at z
            exact c3 (Option.some.inj z.2)
      · rw [hs, if_neg]
        rintro (z | z)
        · exact c z
        · exact c2 z.1
    rintro σ' H'' ⟨rfl, hok, hfg, rfl⟩
    have hle := figs_le hfg
    rw [row_go hok] at k
    have h60 := figs_60 l i
    walk_at "sx"
    have e2 : ∀ (o : HO), Same H (upd H'' f o) := fun o => Same.mut e1 hf0
    refine ⟨Or.inl ⟨rfl, _, Or.inl (Or.inl hff)⟩, sz_of (by omega), num l i, num_read l i _ rfl hfg, by rw [List.length_take]; omega, cmul1 hsg, _, hff, sz_lt (by rw [List.length_map]; omega), sz_of (by omega), fun c => ?_, fun c => ?_⟩
    · have hn : l[i + figs l i]? = none := List.getElem?_eq_none (by omega)
      rw [if_neg (by rw [hn]; intro z; cases z), if_neg (by omega)] at k
      dsimp only at k
      refine ⟨_, .inl (SqL.of upd_same), ?_⟩
      have hlen : (acc.map V.int ++ [V.int (sg * num l i)]).length = (acc ++ [sg * num l i]).length := by
        rw [List.length_append, List.length_append, List.length_map]
        rfl
      rw [hlen]
      refine ⟨fun h6 => ⟨_, .inl ⟨SqL.of upd_same, fun q hq => ⟨by decide, fun p hp => ?_⟩⟩⟩, fun h6 => ⟨by decide, fun p hp => ?_⟩⟩
      · rw [if_neg (by omega)] at k
        refine k p _ (((e2 _).trans (Same.new hq)).trans (Same.new hp)) (((e2 _).trans (Same.new hq)).free hp) ⟨q, upd_same, ?_⟩
        rw [upd_ne (ne_of_none upd_same hp), upd_same, List.map_append]
        rfl
      · rw [if_pos (by omega)] at k
        exact k p _ ((e2 _).trans (Same.new hp)) ((e2 _).free hp) upd_same
    · have hlt : i + figs l i < l.length := by omega
      refine ixS_of (by omega) (List.getElem?_eq_getElem hlt) ?_
      walk_at "sx"
      refine ⟨fun c2 => ⟨by decide, fun p hp => ?_⟩, fun c2 => ?_⟩
      · rw [if_neg (by rw [List.getElem?_eq_getElem hlt]; intro z; exact c2 (Option.some.inj z)), if_pos hlt] at k
        exact k p _ ((e2 _).trans (Same.new hp)) ((e2 _).free hp) upd_same
      · have h44 : l[i + figs l i]? = some 44 := by rw [List.getElem?_eq_getElem hlt, c2]
        refine ⟨l.length - (i + figs l i + 1), by omega, ⟨acc ++ [sg * num l i], i + figs l i + 1, _, _, e2 _, hf0, ?_, ?_, by omega, rfl, ?_, rfl⟩⟩
        · rw [upd_same, List.map_append]
          rfl
        · rw [List.length_append, List.length_singleton]
          omega
        · rw [hc, row_go hok, if_pos h44]
end
end Tx

set_option maxRecDepth 100000
set_option maxHeartbeats 2000000
namespace Tx
open PySem PySem.Spec PyProof.Rows L2
local macro_rules | `(tactic| walk_at "sx") => `(tactic| simp only [cxK, tSeq, tIfS, tTest, tOp, tUn, tSl, tVar, tPart, tNoPart, tC, tRet, tRetN, tNext, tAsg, tPar, tPar3, tAug, tDrop, tB, tAnd, tOr, tNot, tAndV, tOrV, tNotV, tIf, tChain, tCons, tNil, tTup, tLst, tCall, tCB, tBM, tBM0, gName, gCons, gNil, gTup, rNe, rEq, rI0, rI, rU, rSlS, ipI, tRaiseErr, tMkErr, rAppend, tLstRg, tRg1, tRg2, L2.start, List.map_cons, List.map_nil, List.length_cons, List.length_nil, List.cons_append, List.nil_append, List.append_nil, List.getElem?_cons_zero, List.getElem?_cons_succ, List.set_cons_zero, List.set_cons_succ, Option.some.injEq, V.int.injEq, V.str.injEq, V.bl.injEq, V.ref.injEq, List.cons.injEq, exists_eq_left, exists_eq_left', exists_eq_right', exists_and_left, exists_and_right, true_and, and_true, Nat.reduceAdd, Nat.reduceSub, Nat.zero_add, List.replicate_zero, List.replicate_succ, ite_d, ite_nd, ite_b, scal, len_tx, tl_tx, eq_tx, app_tx, cut_nat, cut_to, cut_from, cut_t1, cut_t2, cut_t3, one_at, none_at, two_at, take1, take2, dr0, dr1, forall_eq', forall_eq, nc1, nc2, nc3, nca, Int.natCast_pos, Int.natCast_eq_zero, Bool.not_eq_true', Bool.not_eq_false', decide_eq_true_eq, decide_eq_false_iff_not, Bool.not_true, Bool.not_false, Decidable.not_not, WE, ex2, ex3, Nat.add_sub_add_left, Int.ofNat_lt, Int.natCast_inj, if_true, if_false, Bool.true_eq_false, Bool.false_eq_true, eq_self_iff_true, Nat.add_sub_cancel_left, Nat.add_sub_cancel, imp_false, not_false_eq_true, not_true_eq_false, forall_const, exists_and_self, reduceCtorEq, false_and, and_false, exists_false, List.cons_ne_nil, wipe, List.foldr_cons, List.foldr_nil, List.foldl_cons, List.foldl_nil, tYes, tCKw, tM1, gSub, tAugS, lit_e, lit_10, lit_32, lit_32_32, lit_32_43_32, lit_32_43_32_91_49_93, lit_32_45_32, lit_40, lit_40_41, lit_40_41_40_41, lit_40_48_32_49, lit_40_48_32_49_41, lit_40_48_32_49_41_40_50_32_49_41, lit_40_48_41, lit_41, lit_43, lit_44, lit_44_44, lit_44_51, lit_45, lit_45_48, lit_45_48_91_49_93, lit_48, lit_48_48, lit_48_49, lit_48_49_50_51_52_53_54_55_56_57, lit_49, lit_49_44_44_50, lit_50, lit_50_91_48_93_32_43_91_49_93, lit_57, lit_91, lit_91_48_49_93, lit_91_48_93, lit_91_50_93, lit_93, lit_107_105_110_100_115, lit_109_111_118_101, lit_112_97_114_115_101, lit_114_111_119, lit_116_111_108_100, lit_120])
local macro_rules | `(tactic| walk_at "sl") => `(tactic| simp only [lit_e, lit_10, lit_32, lit_32_32, lit_32_43_32, lit_32_43_32_91_49_93, lit_32_45_32, lit_40, lit_40_41, lit_40_41_40_41, lit_40_48_32_49, lit_40_48_32_49_41, lit_40_48_32_49_41_40_50_32_49_41, lit_40_48_41, lit_41, lit_43, lit_44, lit_44_44, lit_44_51, lit_45, lit_45_48, lit_45_48_91_49_93, lit_48, lit_48_48, lit_48_49, lit_48_49_50_51_52_53_54_55_56_57, lit_49, lit_49_44_44_50, lit_50, lit_50_91_48_93_32_43_91_49_93, lit_57, lit_91, lit_91_48_49_93, lit_91_48_93, lit_91_50_93, lit_93, lit_107_105_110_100_115, lit_109_111_118_101, lit_112_97_114_115_101, lit_114_111_119, lit_116_111_108_100, lit_120])
section
variable {w : World} {K : PySem.W.Frag} {mg : Str → Option Value} {base : Heap}
structure CfI (l : List Nat) (j0 : Nat) (at0 : Nat) (H : Hp) (f c : Addr) (m : Nat) (σ : L2.St) (H' : Hp) : Prop where
  ex : ∃ (acc : List Int) (j : Nat) (b : Bool) (o6 : Option V), Same H H' ∧ H c = none ∧ H' c = some (.lst (acc.map V.int)) ∧ acc.length ≤ j ∧ j ≤ l.length ∧ m = l.length + 1 - j ∧
    (b = true → cyc1 l j0 = cyc l j acc) ∧ (b = false → cyc1 l j0 = .ok (acc, j)) ∧ σ = [some (tx l), some (.int (at0 : Nat)), some (.ref f), some (.int (j : Nat)), some (.ref c), some (.bl b), o6]
structure CfO (l : List Nat) (at0 : Nat) (H : Hp) (f : Addr) (m : Nat) (σ : L2.St) (H' : Hp) : Prop where
  ex : ∃ (rs : List V) (cs : List (List Int)) (j : Nat) (o4 o5 o6 : Option V), Same H H' ∧ H f = none ∧ H' f = some (.lst rs) ∧ Tups H' rs cs ∧ cs.length ≤ j ∧ j ≤ l.length ∧ m = l.length - j ∧
    cycs l at0 [] = (if l[j]? = some 40 then cycs l j cs else .ok (cs, j)) ∧ σ = [some (tx l), some (.int (at0 : Nat)), some (.ref f), some (.int (j : Nat)), o4, o5, o6]
def sp__law_cycles_from : Sp := fun vs H Q _ => ∃ (l : List Nat) (i : Nat), vs = [tx l, .int i] ∧ l.length ≤ 3000 ∧
  match cycsAt l i with
  | .error e => ∀ p H' (u v : V), Same H H' → H p = none → H' p = some (.tup [.int (e : Nat), u, v]) → Q (.ref p) H'
  | .ok (cs, j) => ∀ p b rs H', Same H H' → H p = none → H b = none → H' p = some (.tup [.non, .ref b, .int (j : Nat)]) → H' b = some (.lst rs) → Tups H' rs cs → Q (.ref p) H'
theorem ok__law_cycles_from (S : Pg K mg) : FnOk prog w K mg base CX0 2 S._law_cycles_from.f S._law_cycles_from.fd ["text", "at"] sp__law_cycles_from := by
  refine S._law_cycles_from.F.ok sc__law_cycles_from (fun vs H Q E h => ?_) (fun cdv A outer s H vs Q E hr h => ?_)
  · obtain ⟨l, i, rfl, _⟩ := h
    rfl
  · obtain ⟨l, i, rfl, hl, k⟩ := h
    refine ⟨_, (pss_cons (ps_if (pt_cmpR op_ne (pe_slice sl_str (pv 0) (po_some (pv 1)) (po_some (pe_op op_add (pv 1) pe_int))) pe_str (nomark _))
    (pss_one (ps_ret (pe_tup (pa_cons (pv 1) (pa_cons (pe_lst pa_nil) (pa_cons (pv 1) pa_nil))))))
    pss_nil)
  (pss_cons (ps_if (pt_cmpR op_eq (pe_slice sl_str (pv 0) (po_some (pe_op op_add (pv 1) pe_int)) (po_some (pe_op op_add (pv 1) pe_int))) pe_str (nomark _))
    (pss_one (ps_ret (pe_tup (pa_cons pe_non (pa_cons (pe_lst pa_nil) (pa_cons (pe_op op_add (pv 1) pe_int) pa_nil))))))
    pss_nil)
  (pss_cons (ps_par (i := 2) (j := 3) (by rfl) sc__law_cycles_from.nd rfl rfl (by decide) rfl rfl (pa_cons (pe_lst pa_nil) (pa_cons (pv 1) pa_nil)) (by rfl))
  (pss_cons (ps_while PassesOwn.never (pt_cmpR op_eq (pe_slice sl_str (pv 0) (po_some (pv 3)) (po_some (pe_op op_add (pv 3) pe_int))) pe_str (nomark _))
    (pss_cons (ps_par3 (i := 4) (j := 3) (l := 5) (by rfl) sc__law_cycles_from.nd rfl rfl rfl (by decide) (by decide) (by decide) rfl rfl rfl (pa_cons (pe_lst pa_nil) (pa_cons (pe_op op_add (pv 3) pe_int) (pa_cons pe_bl pa_nil))) (by rfl))
    (pss_cons (ps_while PassesOwn.never (pt_val (pv 5))
      (pss_cons (ps_set (i := 6) sc__law_cycles_from.nd rfl (Or.inl rfl) (pe_call (ok__law_figures S) (hr.mono (by decide)) rfl S._law_figures.m S._law_figures.F.kp S._law_figures.b .nil pass0 (pa_cons (pv 0) (pa_cons (pv 3) pa_nil))))
      (pss_cons (ps_if (pt_cmpR op_eq (pv 6) pe_int (nomark _))
        (pss_one (ps_ret (pe_tup (pa_cons (pv 3) (pa_cons (pe_lst pa_nil) (pa_cons (pv 3) pa_nil))))))
        pss_nil)
      (pss_cons (ps_expr (pe_bm PySem.F.plainAttrs_list PySem.F.slot_list_append PySem.F.type_list_append mt_append (pv 4) (pa_cons (pe_callTy call_int_str (by rfl) S.b_int (by decide +kernel) (pa_cons (pe_slice sl_str (pv 0) (po_some (pv 3)) (po_some (pe_op op_add (pv 3) (pv 6)))) pa_nil)) pa_nil)))
      (pss_cons (ps_set (i := 3) sc__law_cycles_from.nd rfl (Or.inl rfl) (pe_op op_add (pv 3) (pv 6)))
      (Evl.pss_cut (ps_if (PW.pt (pw_and (pt_cmpR op_eq (pe_slice sl_str (pv 0) (po_some (pv 3)) (po_some (pe_op op_add (pv 3) pe_int))) pe_str (nomark _)) (pw_and1 (pt_cmpR op_gt (pe_callB call_len_seq (by rfl) S.b_len (by decide +kernel) (pa_cons (pv 4) pa_nil)) pe_int (nomark _)))))
        (pss_one (ps_set (i := 5) sc__law_cycles_from.nd rfl (Or.inl rfl) pe_bl))
        (pss_one (ps_if (pt_cmpR op_ne (pe_slice sl_str (pv 0) (po_some (pv 3)) (po_some (pe_op op_add (pv 3) pe_int))) pe_str (nomark _))
          (pss_one (ps_ret (pe_tup (pa_cons (pv 3) (pa_cons (pe_lst pa_nil) (pa_cons (pv 3) pa_nil))))))
          pss_nil)))
      (pss_one (ps_set (i := 3) sc__law_cycles_from.nd rfl (Or.inl rfl) (pe_op op_add (pv 3) pe_int)))))))))
    (pss_one (ps_expr (pe_bm PySem.F.plainAttrs_list PySem.F.slot_list_append PySem.F.type_list_append mt_append (pv 2) (pa_cons (pe_callTy call_tuple_of (by rfl) S.b_tuple (by decide +kernel) (pa_cons (pv 4) pa_nil)) pa_nil)))))))
  (pss_one (ps_ret (pe_tup (pa_cons pe_non (pa_cons (pv 2) (pa_cons (pv 3) pa_nil)))))))))), ?_⟩
    walk_at "sx"
    refine ⟨sz_of (by omega), fun c => ?_, fun c => ?_⟩
    · have e : cycsAt l i = .error i := by
        unfold cycsAt
        rw [if_neg (fun z => c z.1), cycs_err (e := i)]
        unfold cyc1
        rw [if_neg c]
      rw [e] at k
      refine ⟨Nat.zero_le _, fun b hb => ⟨by decide, fun p hp => ?_⟩⟩
      exact k p _ _ _ ((Same.new hb).trans (Same.new hp)) ((Same.new hb).free hp) upd_same
    · refine ⟨sz_of (by omega), fun c2 => ?_, fun c2 => ?_⟩
      · have e : cycsAt l i = .ok ([], i + 2) := if_pos ⟨c, c2⟩
        rw [e] at k
        refine ⟨Nat.zero_le _, fun b hb => ⟨by decide, fun p hp => ?_⟩⟩
        exact k p b [] _ ((Same.new hb).trans (Same.new hp)) ((Same.new hb).free hp) hb upd_same (by rw [upd_ne (ne_of_none upd_same hp), upd_same]) .nil
      have e0 : cycsAt l i = cycs l i [] := if_neg fun z => c2 z.2
      rw [e0] at k
      have hil : i < l.length := (List.getElem?_eq_some_iff.mp c).1
      refine ⟨Nat.zero_le _, fun f hf => ?_⟩
      refine ⟨CfO l i H f, ⟨_, ⟨[], [], i, _, _, _, Same.new hf, hf, upd_same, .nil, Nat.zero_le _, by omega, rfl, by rw [if_pos c], rfl⟩⟩, ?_⟩
      rintro m σ H1 ⟨rs, cs, j, o4, o5, o6, e1, hf0, hff, ht, hcl, hj, rfl, hc, rfl⟩
      rw [hc] at k
      walk_at "sx"
      refine ⟨sz_of (by omega), fun c3 => ?_, fun c3 => ?_⟩
      · rw [if_pos c3] at k hc
        have hjl : j < l.length := (List.getElem?_eq_some_iff.mp c3).1
        refine ⟨_, fun _ _ h => h, Nat.zero_le _, fun q hq => ?_⟩
        have hqf : f ≠ q := ne_of_none hff hq
        refine ⟨CfI l j i H1 f q, ⟨_, ⟨[], j + 1, true, _, Same.new hq, hq, upd_same, Nat.zero_le _, by omega, rfl, fun _ => by unfold cyc1; rw [if_pos c3], (fun h => nomatch h), rfl⟩⟩, ?_⟩
        rintro m2 σ H2 ⟨acc, j2, b, o7, e2, hq0, hqq, hal, hj2, rfl, hb1, hb2, rfl⟩
        have e3 := e1.trans e2
        have hff2 := e2 _ _ hff
        cases b with
        | false =>
          have hok := hb2 rfl
          walk_at "sx"
          obtain ⟨r1, r2, r3, r4, r5⟩ := cyc1_ok hok
          have hlr : rs.length = cs.length := Paired.length ht
          refine ⟨fun h => h.elim, Or.inl ⟨rfl, _, Or.inl (Or.inl hff2)⟩, _, .inl ⟨SqL.of hqq, fun t ht2 => ?_⟩⟩
          have hff3 := Same.new (o := .tup (acc.map V.int)) ht2 _ _ hff2
          refine ⟨rs, hff3, sz_lt (by omega), l.length - j2, by omega, ⟨rs ++ [.ref t], cs ++ [acc], j2, _, _, _, Same.mut (e3.trans (Same.new ht2)) hf0, hf0, upd_same, ?_, by simp; omega, r3, rfl, ?_, rfl⟩⟩
          · exact PySem.Paired.snoc (Tups.mut ((ht.go e2).go (Same.new ht2)) hff3) ⟨t, rfl, by rw [upd_ne (Ne.symm (ne_of_none hff2 ht2)), upd_same]⟩
          · rw [hc, cycs_go hok]
        | true =>
          have hcy := hb1 rfl
          walk_at "sx"
          refine ⟨⟨_, fun _ _ h => h, l, j2, rfl, by omega, ?_⟩, fun h => h.elim⟩
          walk_at "sx"
          refine ⟨fun c4 => ?_, fun c4 => ?_⟩
          · rw [cyc_zero c4] at hcy
            rw [cycs_err hcy] at k
            refine ⟨Nat.zero_le _, fun b hb => ⟨by decide, fun p hp => ?_⟩⟩
            exact k p _ _ _ ((e3.trans (Same.new hb)).trans (Same.new hp)) ((e3.trans (Same.new hb)).free hp) upd_same
          · rw [cyc_pos c4] at hcy
            have h60 := figs_60 l j2
            have hle := figs_le c4
            refine ⟨Or.inl ⟨rfl, _, Or.inl (Or.inl hqq)⟩, sz_of (by omega), num l j2, num_read l j2 _ rfl c4, by rw [List.length_take]; omega, _, hqq, sz_lt (by rw [List.length_map]; omega), ?_⟩
            have e4 : Same H1 (upd H2 q (HO.lst (acc.map V.int ++ [V.int (num l j2)]))) := Same.mut e2 hq0
            have hq4 : upd H2 q (HO.lst (acc.map V.int ++ [V.int (num l j2)])) q = some (.lst ((acc ++ [num l j2]).map V.int)) := by
              rw [upd_same, List.map_append]
              rfl
            have hlen : (acc ++ [num l j2]).length = acc.length + 1 := by rw [List.length_append, List.length_singleton]
            generalize hj3 : j2 + figs l j2 = j3 at hcy hle
            generalize upd H2 q (HO.lst (acc.map V.int ++ [V.int (num l j2)])) = H4 at e4 hq4
            have e5 := e1.trans e4
            refine ⟨fun σ' H' => H' = H4 ∧ ∃ b : Bool, ((b = false ∧ cyc1 l j = .ok (acc ++ [num l j2], j3 + 1)) ∨ (b = true ∧ cyc1 l j = cyc l (j3 + 1) (acc ++ [num l j2]))) ∧ j3 + 1 ≤ l.length ∧ σ' = [some (tx l), some (.int (i : Nat)), some (.ref f), some (.int (j3 : Nat)), some (.ref q), some (.bl b), some (.int (figs l j2 : Nat))], ?_, ?_⟩
            · have elif : ¬ (l[j3]? = some 41 ∧ 2 ≤ (acc ++ [num l j2]).length) → l.length ≤ sizeLine ∧ (¬l[j3]? = some 32 → 0 ≤ sizeLine ∧ ∀ (p : Addr), H4 p = none → 3 ≤ sizeLine ∧ ∀ (p_1 : Addr), upd H4 p (HO.lst []) p_1 = none → Q (V.ref p_1) (upd (upd H4 p (HO.lst [])) p_1 (HO.tup [V.int ↑j3, V.ref p, V.int ↑j3]))) ∧ (l[j3]? = some 32 → ∃ b : Bool, ((b = false ∧ cyc1 l j = .ok (acc ++ [num l j2], j3 + 1)) ∨ (b = true ∧ cyc1 l j = cyc l (j3 + 1) (acc ++ [num l j2]))) ∧ j3 + 1 ≤ l.length ∧ true = b) := fun hn => by
                unfold aft at hcy
                rw [if_neg hn] at hcy
                refine ⟨sz_of (by omega), fun c5 => ⟨Nat.zero_le _, fun b hb => ⟨by decide, fun p hp => ?_⟩⟩, fun c5 => ?_⟩
                · rw [if_neg c5] at hcy
                  rw [cycs_err hcy] at k
                  exact k p _ _ _ ((e5.trans (Same.new hb)).trans (Same.new hp)) ((e5.trans (Same.new hb)).free hp) upd_same
                · rw [if_pos c5] at hcy
                  exact ⟨true, .inr ⟨rfl, hcy⟩, (List.getElem?_eq_some_iff.mp c5).1, rfl⟩
              walk_at "sx"
              refine ⟨sz_of (by omega), fun c5 => ⟨_, .inl (SqL.of hq4), ?_⟩, fun c5 => elif fun z => c5 z.1⟩
              rw [List.length_map]
              refine ⟨fun c6 => ⟨false, .inl ⟨rfl, ?_⟩, (List.getElem?_eq_some_iff.mp c5).1, rfl⟩, fun c6 => elif fun z => c6 (by omega)⟩
              unfold aft at hcy
              rw [if_pos ⟨c5, by omega⟩] at hcy
              exact hcy
            rintro σ' H' ⟨rfl, b, hbb, hj4, rfl⟩
            walk_at "sx"
            refine ⟨l.length + 1 - (j3 + 1), by omega, ⟨acc ++ [num l j2], j3 + 1, b, _, e4, hq0, hq4, by omega, hj4, rfl, fun h => ?_, fun h => ?_, rfl⟩⟩
            · rcases hbb with ⟨z, _⟩ | ⟨_, z⟩
              · rw [z] at h
                cases h
              · exact z
            · rcases hbb with ⟨_, z⟩ | ⟨z, _⟩
              · exact z
              · rw [z] at h
                cases h
      · rw [if_neg c3] at k
        refine ⟨by decide, fun p hp => ?_⟩
        exact k p f rs _ (e1.trans (Same.new hp)) (e1.free hp) hf0 upd_same (Same.new hp _ _ hff) (ht.go (Same.new hp))
end
end Tx

set_option maxRecDepth 100000
set_option maxHeartbeats 2000000
namespace Tx
open PySem PySem.Spec PyProof.Rows L2
local macro_rules | `(tactic| walk_at "sx") => `(tactic| simp only [cxK, tSeq, tIfS, tTest, tOp, tUn, tSl, tVar, tPart, tNoPart, tC, tRet, tRetN, tNext, tAsg, tPar, tPar3, tAug, tDrop, tB, tAnd, tOr, tNot, tAndV, tOrV, tNotV, tIf, tChain, tCons, tNil, tTup, tLst, tCall, tCB, tBM, tBM0, gName, gCons, gNil, gTup, rNe, rEq, rI0, rI, rU, rSlS, ipI, tRaiseErr, tMkErr, rAppend, tLstRg, tRg1, tRg2, L2.start, List.map_cons, List.map_nil, List.length_cons, List.length_nil, List.cons_append, List.nil_append, List.append_nil, List.getElem?_cons_zero, List.getElem?_cons_succ, List.set_cons_zero, List.set_cons_succ, Option.some.injEq, V.int.injEq, V.str.injEq, V.bl.injEq, V.ref.injEq, List.cons.injEq, exists_eq_left, exists_eq_left', exists_eq_right', exists_and_left, exists_and_right, true_and, and_true, Nat.reduceAdd, Nat.reduceSub, Nat.zero_add, List.replicate_zero, List.replicate_succ, ite_d, ite_nd, ite_b, scal, len_tx, tl_tx, eq_tx, app_tx, cut_nat, cut_to, cut_from, cut_t1, cut_t2, cut_t3, one_at, none_at, two_at, take1, take2, dr0, dr1, forall_eq', forall_eq, nc1, nc2, nc3, nca, Int.natCast_pos, Int.natCast_eq_zero, Bool.not_eq_true', Bool.not_eq_false', decide_eq_true_eq, decide_eq_false_iff_not, Bool.not_true, Bool.not_false, Decidable.not_not, WE, ex2, ex3, Nat.add_sub_add_left, Int.ofNat_lt, Int.natCast_inj, if_true, if_false, Bool.true_eq_false, Bool.false_eq_true, eq_self_iff_true, Nat.add_sub_cancel_left, Nat.add_sub_cancel, imp_false, not_false_eq_true, not_true_eq_false, forall_const, exists_and_self, reduceCtorEq, false_and, and_false, exists_false, List.cons_ne_nil, wipe, List.foldr_cons, List.foldr_nil, List.foldl_cons, List.foldl_nil, tYes, tCKw, tM1, gSub, tAugS, lit_e, lit_10, lit_32, lit_32_32, lit_32_43_32, lit_32_43_32_91_49_93, lit_32_45_32, lit_40, lit_40_41, lit_40_41_40_41, lit_40_48_32_49, lit_40_48_32_49_41, lit_40_48_32_49_41_40_50_32_49_41, lit_40_48_41, lit_41, lit_43, lit_44, lit_44_44, lit_44_51, lit_45, lit_45_48, lit_45_48_91_49_93, lit_48, lit_48_48, lit_48_49, lit_48_49_50_51_52_53_54_55_56_57, lit_49, lit_49_44_44_50, lit_50, lit_50_91_48_93_32_43_91_49_93, lit_57, lit_91, lit_91_48_49_93, lit_91_48_93, lit_91_50_93, lit_93, lit_107_105_110_100_115, lit_109_111_118_101, lit_112_97_114_115_101, lit_114_111_119, lit_116_111_108_100, lit_120])
local macro_rules | `(tactic| walk_at "sl") => `(tactic| simp only [lit_e, lit_10, lit_32, lit_32_32, lit_32_43_32, lit_32_43_32_91_49_93, lit_32_45_32, lit_40, lit_40_41, lit_40_41_40_41, lit_40_48_32_49, lit_40_48_32_49_41, lit_40_48_32_49_41_40_50_32_49_41, lit_40_48_41, lit_41, lit_43, lit_44, lit_44_44, lit_44_51, lit_45, lit_45_48, lit_45_48_91_49_93, lit_48, lit_48_48, lit_48_49, lit_48_49_50_51_52_53_54_55_56_57, lit_49, lit_49_44_44_50, lit_50, lit_50_91_48_93_32_43_91_49_93, lit_57, lit_91, lit_91_48_49_93, lit_91_48_93, lit_91_50_93, lit_93, lit_107_105_110_100_115, lit_109_111_118_101, lit_112_97_114_115_101, lit_114_111_119, lit_116_111_108_100, lit_120])
section
variable {w : World} {K : PySem.W.Frag} {mg : Str → Option Value} {base : Heap}
theorem dp_ints {H : Hp} : ∀ ns : List Int, DpAll K H (ns.map V.int) (ns.map PyData.int)
  | [] => .nil
  | n :: r => .cons (.int n) (dp_ints r)
theorem lay_ints : ∀ ns : List Int, PyData.canLayAll0 (ns.map PyData.int) = true
  | [] => rfl
  | n :: r => by
    show (true && PyData.canLayAll0 (r.map PyData.int)) = true
    rw [lay_ints r]
    rfl
theorem in_ints {p : Addr} {ns : List Int} {n : Int} {H : Hp} {Q : VK} {neg : Bool} (h : SqL K H p (ns.map V.int)) (q : Q (.bl (if neg = true then !decide (n ∈ ns) else decide (n ∈ ns))) H) : rIn K neg (.int n) (.ref p) H Q := by
  refine ⟨p, _, rfl, .inl h, rfl, ?_, ?_⟩
  · exact List.all_eq_true.mpr fun v hv => by
      obtain ⟨m, _, rfl⟩ := List.mem_map.mp hv
      rfl
  · have e : inV (.int n) (ns.map V.int) = decide (n ∈ ns) := by
      unfold inV
      rw [List.any_map]
      by_cases h : n ∈ ns
      · rw [decide_eq_true h]
        exact List.any_eq_true.mpr ⟨n, h, beq_self_eq_true n⟩
      · rw [decide_eq_false h]
        rw [Bool.eq_false_iff]
        intro z
        obtain ⟨m, hm, e⟩ := List.any_eq_true.mp z
        exact h (by have : m = n := eq_of_beq e; exact this ▸ hm)
    rw [e]
    exact q
def sp__law_move_of : Sp := fun vs H Q _ => ∃ (p : Nat) (a : Addr) (rs : List V) (cs : List (List Int)), vs = [.int (p : Nat), .ref a] ∧ 1 ≤ p ∧ p ≤ 24 ∧ H a = some (.lst rs) ∧ Tups H rs cs ∧ Rings cs ∧ cs.flatten.length ≤ 100000 ∧
  match moveOf p cs with
  | none => ∀ H', Same H H' → Q .non H'
  | some f => okTup H Q (f.map V.int)
structure MvI (rs : List V) (cs : List (List Int)) (a f kn : Addr) (H : Hp) (p : Nat) (i : Nat) (σ : L2.St) (H' : Hp) : Prop where
  ex : ∃ o4 o5 o6, Same H H' ∧ H f = none ∧ H kn = none ∧ f ≠ kn ∧ H' f = some (.lst ((putRs (rgI p) (cs.take i)).map V.int)) ∧ H' kn = some (.lst ((cs.take i).flatten.map V.int)) ∧
    (cs.take i).flatten.Nodup ∧ (∀ x ∈ (cs.take i).flatten, x < (p : Int)) ∧ σ = [some (.int (p : Nat)), some (.ref a), some (.ref f), some (.ref kn), o4, o5, o6]
theorem ok__law_move_of (S : Pg K mg) : FnOk prog w K mg base CX0 1 S._law_move_of.f S._law_move_of.fd ["places", "rings"] sp__law_move_of := by
  refine S._law_move_of.F.ok sc__law_move_of (fun vs H Q E h => ?_) (fun cdv A outer s H vs Q E hr h => ?_)
  · obtain ⟨p, a, rs, cs, rfl, _⟩ := h
    rfl
  · obtain ⟨p, a, rs, cs, rfl, hp1, hp2, ha, ht, hr1, hfl, k⟩ := h
    refine ⟨_, (pss_cons (ps_par (i := 2) (j := 3) (by rfl) sc__law_move_of.nd rfl rfl (by decide) rfl rfl (pa_cons (pe_listRg rfl (by rfl) S.b_list (prg_1 (by rfl) S.b_range (pv 0))) (pa_cons (pe_lst pa_nil) pa_nil)) (by rfl))
  (pss_cons (ps_for PassesOwn.never rfl (pi_list (pv 1)) (pg_name (i := 4) sc__law_move_of.nd rfl (Or.inl rfl))
    (pss_one (ps_for PassesOwn.never rfl (pi_enumT (by rfl) S.b_enumerate (pa_cons (pv 4) pa_nil)) (pg_tup rfl (pgs_cons (pg_name (i := 5) sc__law_move_of.nd rfl (Or.inl rfl)) (pgs_cons (pg_name (i := 6) sc__law_move_of.nd rfl (Or.inl rfl)) pgs_nil)))
      (pss_cons (ps_if (PW.pt (pw_or (pt_cmpR op_ge (pv 6) (pv 0) (nomark _)) (pw_or1 (pt_cmpR op_in_seq (pv 6) (pv 3) rfl))))
        (pss_one (ps_ret pe_non))
        pss_nil)
      (pss_cons (ps_expr (pe_bm PySem.F.plainAttrs_list PySem.F.slot_list_append PySem.F.type_list_append mt_append (pv 3) (pa_cons (pv 6) pa_nil)))
      (pss_one (ps_asg (pe_ix ix_tup (pv 4) (pe_op op_mod (pe_callTy call_int1 (by rfl) S.b_int (by decide +kernel) (pa_cons (pe_op op_add (pv 5) pe_int) pa_nil)) (pe_callB call_len_seq (by rfl) S.b_len (by decide +kernel) (pa_cons (pv 4) pa_nil))) (fun _ _ => rfl)) (pg_sub (pv 2) (pv 6) set_list))))))))
  (pss_cons (ps_if (pt_cmpR (op_neD hr.units) (pe_lc (own := [("place", 6)]) rfl sc__law_move_of.nd (pi_list (pv 2)) (blkOk_by (N := ["places", "rings", "found", "known", "ring", "at", "place"]) (sc := defScope (top 43)) (by decide +kernel)) (fun _ _ _ _ _ => (pg_name (i := 6) sc__law_move_of.nd rfl (Or.inl rfl))) (fun _ _ _ _ _ => (pts_one (pt_cmpR op_ge (pv 6) (pv 0) (nomark _)))) (fun _ _ _ _ _ => (pv 6))) (pe_lst pa_nil) (nomark _))
    (pss_one (ps_ret pe_non))
    pss_nil)
  (pss_one (ps_ret (pe_callTy call_tuple_of (by rfl) S.b_tuple (by decide +kernel) (pa_cons (pv 2) pa_nil))))))), ?_⟩
    walk_at "sx"
    refine ⟨RgOk.of_le (by omega) (by omega) (by omega) (by omega), fun f hf => ⟨Nat.zero_le _, fun kn hkn => ?_⟩⟩
    rw [rgV_rgI] at hkn ⊢
    have hfk : f ≠ kn := ne_of_none upd_same hkn
    have e0 : Same H (upd (upd H f (.lst ((rgI p).map V.int))) kn (.lst [])) := (Same.new hf).trans (Same.new hkn)
    have hkn0 : H kn = none := (Same.new hf).free hkn
    have hcl : rs.length = cs.length := Paired.length ht
    refine for_it (fun R h => ⟨_, rfl, _, rfl, ⟨_, SqL.of (e0 _ _ ha)⟩, h⟩) itL (fun i σ H' => MvI rs cs a f kn H p i σ H') ⟨_, _, _, e0, hf, hkn0, hfk, by rw [upd_ne hfk, upd_same]; rfl, upd_same, by simp, by simp, rfl⟩ (fun i σ H' hi ⟨o4, o5, o6, e, _⟩ => SqL.of (e _ _ ha)) ?_ ?_
    · rintro i x σ H3 hx ⟨o4, o5, o6, e3, hf0, hk0, hne, hff, hkk, hnd, hlt, rfl⟩
      obtain ⟨c, hc, b, rfl, hb⟩ := pget ht hx
      have hbs : ∀ {H4}, Same H H4 → SqT K H4 b (c.map V.int) := fun e => SqT.of (e _ _ hb)
      have hcm : c ∈ cs := List.mem_of_getElem? hc
      have hc2 := (hr1 c hcm).1
      refine for_en (a := b) (xs := c.map V.int) (fun R h => ⟨_, rfl, b, _, rfl, hbs e3, h⟩) (fun j σ H' => ∃ o5 o6, Same H H' ∧ H' f = some (.lst ((putR (putRs (rgI p) (cs.take i)) c j).map V.int)) ∧ H' kn = some (.lst (((cs.take i).flatten ++ c.take j).map V.int)) ∧
        ((cs.take i).flatten ++ c.take j).Nodup ∧ (∀ x ∈ (cs.take i).flatten ++ c.take j, x < (p : Int)) ∧ σ = [some (.int (p : Nat)), some (.ref a), some (.ref f), some (.ref kn), some (.ref b), o5, o6]) ⟨o5, o6, e3, hff, by rw [hkk]; simp, by simpa using hnd, by simpa using hlt, rfl⟩ (fun j σ H' hj ⟨_, _, e, _⟩ => hbs e) ?_ ?_
      · rintro j x T σ H4 hx4 hT ⟨o5, o6, e4, hff4, hkk4, hnd4, hlt4, rfl⟩
        rw [List.getElem?_map] at hx4
        obtain ⟨n, hn, rfl⟩ := Option.map_eq_some_iff.mp hx4
        have hjl : j < c.length := (List.getElem?_eq_some_iff.mp hn).1
        have hnm : n ∈ c := List.mem_of_getElem? hn
        have hn0 : 0 ≤ n := (hr1 c hcm).2 n hnm
        obtain ⟨r, hr⟩ := flat_at2 hc hn
        walk_at "sx"
        refine unp upd_same rfl ?_
        walk_at "sx"
        have e5 := e4.trans (Same.new (o := .tup [.int (j : Nat), .int n]) hT)
        have hkk5 : upd H4 T (.tup [.int (j : Nat), .int n]) kn = some (.lst (((cs.take i).flatten ++ c.take j).map V.int)) := Same.new hT _ _ hkk4
        have hff5 : upd H4 T (.tup [.int (j : Nat), .int n]) f = some (.lst ((putR (putRs (rgI p) (cs.take i)) c j).map V.int)) := Same.new hT _ _ hff4
        refine ⟨fun hge => ?_, fun hge => in_ints (SqL.of hkk5) ?_⟩
        · rw [moveOf_far hr hge] at k
          exact k _ e5
        · walk_at "sx"
          refine ⟨fun hin => ?_, fun hnin => ?_⟩
          · rw [moveOf_dup hr hin] at k
            exact k _ e5
          · have hlD : ((cs.take i).flatten ++ c.take j).length < cs.flatten.length := by
              rw [hr]
              simp only [List.length_append, List.length_cons]
              omega
            obtain ⟨k2, rfl⟩ : ∃ k : Nat, n = (k : Int) := ⟨n.toNat, by omega⟩
            have hmod : (((j + 1 : Nat) : Int)) % (c.length : Int) = (((j + 1) % c.length : Nat) : Int) := (Int.natCast_emod (j + 1) c.length).symm
            have hgl : (j + 1) % c.length < c.length := Nat.mod_lt _ (by omega)
            have hg : (c.map V.int)[(j + 1) % c.length]? = some (.int (c.getD ((j + 1) % c.length) 0)) := by
              rw [List.getElem?_map, List.getD_eq_getElem?_getD, List.getElem?_eq_getElem hgl]
              rfl
            have hln : ((putR (putRs (rgI p) (cs.take i)) c j).map V.int).length = p := by rw [List.length_map, putR_len, putRs_len, rgI_len]
            have e6 : ∀ o, Same H (upd (upd H4 T (.tup [.int (j : Nat), .int (k2 : Nat)])) kn o) := fun o => Same.mut e5 hk0
            refine ⟨Or.inl ⟨rfl, _, Or.inl (Or.inl hkk5)⟩, _, hkk5, sz_lt (by rw [List.length_map]; exact Nat.lt_of_lt_of_le hlD hfl), .inl ⟨_, .inr (hbs (e6 _)), ?_⟩⟩
            rw [List.length_map]
            refine ⟨by omega, _, _, _, _, rfl, rfl, hbs (e6 _), by rw [hmod]; exact atI_nat hg, ?_⟩
            refine ⟨_, _, _, k2, rfl, rfl, by rw [upd_ne hne]; exact hff5, by rw [hln]; exact ixN_nat (by omega), ?_⟩
            have htk : c.take (j + 1) = c.take j ++ [((k2 : Nat) : Int)] := by rw [List.take_succ, hn]; rfl
            have hap : (cs.take i).flatten ++ c.take (j + 1) = ((cs.take i).flatten ++ c.take j) ++ [((k2 : Nat) : Int)] := by rw [htk, List.append_assoc]
            refine ⟨Same.mut (e6 _) hf0, ?_, ?_, ?_, ?_⟩
            · rw [upd_same]
              show _ = some (HO.lst (((putR (putRs (rgI p) (cs.take i)) c j).set (c.getD j 0).toNat (c.getD ((j + 1) % c.length) 0)).map V.int))
              have e7 : (c.getD j 0).toNat = k2 := by
                rw [List.getD_eq_getElem?_getD, hn]
                show ((k2 : Nat) : Int).toNat = k2
                omega
              rw [e7, List.map_set]
            · rw [upd_ne (Ne.symm hne), upd_same, hap, List.map_append (l₂ := [((k2 : Nat) : Int)])]
              rfl
            · rw [hap]
              exact List.nodup_append.mpr ⟨hnd4, by simp, fun x hx y hy e => hnin (by rw [List.mem_singleton.mp hy] at e; exact e ▸ hx)⟩
            · rw [hap]
              intro x hx
              rcases List.mem_append.mp hx with hx | hx
              · exact hlt4 x hx
              · rw [List.mem_singleton.mp hx]
                omega
      · rintro σ H4 ⟨o5, o6, e4, hff4, hkk4, hnd4, hlt4, rfl⟩
        rw [List.length_map] at hff4 hkk4 hnd4 hlt4
        have et : (cs.take (i + 1)) = cs.take i ++ [c] := by rw [List.take_succ, hc]; rfl
        have ef : (cs.take (i + 1)).flatten = (cs.take i).flatten ++ c := by rw [et, List.flatten_append]; simp
        rw [List.take_length] at hkk4 hnd4 hlt4
        refine ⟨_, _, _, e4, hf0, hk0, hne, ?_, by rw [hkk4, ef], by rw [ef]; exact hnd4, by rw [ef]; exact hlt4, rfl⟩
        rw [hff4, et, putRs_snoc]
    · rintro σ H3 ⟨o4, o5, o6, e3, hf0, hk0, hne, hff, hkk, hnd, hlt, rfl⟩
      rw [hcl, List.take_length] at hff hkk hnd hlt
      have hm : moveOf p cs = some (putRs (rgI p) cs) := if_pos ⟨hnd, hlt⟩
      rw [hm] at k
      walk_at "sx"
      have hall : ∀ x ∈ putRs (rgI p) cs, x < (p : Int) := putRs_lt cs _ rgI_lt fun c hc => ⟨by
        have := (hr1 c hc).1
        intro z
        rw [z] at this
        simp at this, fun x hx => hlt x (List.mem_flatten.mpr ⟨c, hc, hx⟩)⟩
      refine lc_filter (xs := (putRs (rgI p) cs).map V.int) (P := fun H' => SqL K H' f ((putRs (rgI p) cs).map V.int)) (fun _ => false) (fun R h => ⟨_, rfl, _, rfl, ⟨_, SqL.of hff⟩, h⟩) itL (fun H' e => SqL.of (e _ _ hff)) (by rw [List.length_map, putRs_len, rgI_len]; omega) (by show 6 < 7; decide) (fun x H' N hx e hN => ?_) (fun D H' hD e h => ?_)
      · obtain ⟨n, hn, rfl⟩ := List.mem_map.mp hx
        have := hall n hn
        walk_at "sx"
        rw [decide_eq_false (by omega)]
        exact hN _ (Same.refl _)
      · have hfl0 : ∀ xs : List V, xs.filter (fun _ => false) = [] := fun xs => by induction xs <;> simp_all
        rw [hfl0] at h
        refine ⟨Nat.zero_le _, fun q hq => ⟨.list [], .list [], .lst (SqL.of (Same.new hq _ _ h)) .nil, .lst (SqL.of upd_same) .nil, by decide, by decide, ?_⟩⟩
        have e4 := (e3.trans e).trans (Same.new (o := .lst []) hq)
        refine ⟨_, rfl, (fun h => absurd h (by decide)), fun _ => ⟨_, .inl ⟨SqL.of (Same.new hq _ _ (e _ _ hff)), fun z hz => k z _ (e4.trans (Same.new hz)) (e4.free hz) upd_same⟩⟩⟩
def moveOc (p : Nat) (l : List Nat) : Oc := match ringsOf l with
  | .error e => .parse e
  | .ok cs => match moveOf p cs with
    | none => .own [109, 111, 118, 101]
    | some f => .told f
def sp__law_move_read : Sp := fun vs H Q _ => ∃ (l : List Nat) (p : Nat), vs = [tx l, .int (p : Nat)] ∧ l.length ≤ 3000 ∧ 1 ≤ p ∧ p ≤ 24 ∧ okOc H Q (moveOc p l)
theorem ok__law_move_read (S : Pg K mg) : FnOk prog w K mg base CX0 3 S._law_move_read.f S._law_move_read.fd ["text", "places"] sp__law_move_read := by
  refine S._law_move_read.F.ok sc__law_move_read (fun vs H Q E h => ?_) (fun cdv A outer s H vs Q E hr h => ?_)
  · obtain ⟨l, p, rfl, _⟩ := h
    rfl
  · obtain ⟨l, p, rfl, hl, hp1, hp2, k⟩ := h
    refine ⟨_, (pss_cons (ps_asg (pe_call (ok__law_cycles_from S) (hr.mono (by decide)) rfl S._law_cycles_from.m S._law_cycles_from.F.kp S._law_cycles_from.b .nil pass0 (pa_cons (pv 0) (pa_cons pe_int pa_nil))) (pg_tup rfl (pgs_cons (pg_name (i := 2) sc__law_move_read.nd rfl (Or.inl rfl)) (pgs_cons (pg_name (i := 3) sc__law_move_read.nd rfl (Or.inl rfl)) (pgs_cons (pg_name (i := 4) sc__law_move_read.nd rfl (Or.inl rfl)) pgs_nil)))))
  (pss_cons (ps_if (PW.pt (pw_or (pt_cmpR op_notN (pv 2) pe_non (nomark _)) (pw_or1 (pt_cmpR op_lt (pv 4) (pe_callB call_len_str (by rfl) S.b_len (by decide +kernel) (pa_cons (pv 0) pa_nil)) (nomark _)))))
    (pss_one (ps_ret (pe_tup (pa_cons pe_str (pa_cons (pe_ifExp (pt_cmpR op_notN (pv 2) pe_non (nomark _)) (pv 2) (pv 4)) pa_nil)))))
    pss_nil)
  (pss_cons (ps_set (i := 5) sc__law_move_read.nd rfl (Or.inl rfl) (pe_call (ok__law_move_of S) (hr.mono (by decide)) rfl S._law_move_of.m S._law_move_of.F.kp S._law_move_of.b .nil pass0 (pa_cons (pv 1) (pa_cons (pv 3) pa_nil))))
  (pss_one (ps_ret (pe_ifExp (pt_cmpR op_isN (pv 5) pe_non (nomark _)) (pe_tup (pa_cons pe_str pa_nil)) (pe_tup (pa_cons pe_str (pa_cons (pv 5) pa_nil))))))))), ?_⟩
    walk_at "sx"
    refine ⟨l, 0, rfl, hl, ?_⟩
    unfold moveOc ringsOf at k
    cases e1 : cycsAt l 0 with
    | error e =>
      rw [e1] at k
      intro p0 H1 u v es h0 h1
      walk_at "sx"
      refine unp h1 rfl ?_
      walk_at "sx"
      refine ⟨⟨⟨by decide, fun q hq => ?_⟩, fun h => h.elim⟩, fun h => h.elim⟩
      exact k q _ (es.trans (Same.new hq)) (es.free hq) upd_same
    | ok y =>
      obtain ⟨cs, j⟩ := y
      obtain ⟨q1, q2, q3⟩ := cycsAt_ok e1
      have q4 := cycsAt_len e1
      rw [e1] at k
      intro p0 b rs H1 es h0 hb0 h1 hb ht
      walk_at "sx"
      refine unp h1 rfl ?_
      walk_at "sx"
      refine ⟨fun h => h.elim, sz_of (by omega), fun c => ⟨fun h => h.elim, by decide, fun q hq => ?_⟩, fun c => ?_⟩
      · simp only [if_pos c] at k
        exact k q _ (es.trans (Same.new hq)) (es.free hq) upd_same
      · simp only [if_neg c] at k
        refine ⟨p, b, rs, cs, rfl, hp1, hp2, hb, ht, q3, by omega, ?_⟩
        cases e2 : moveOf p cs with
        | none =>
          rw [e2] at k
          intro H2 e3
          walk_at "sx"
          refine ⟨⟨by decide, fun q hq => ?_⟩, fun h => h.elim⟩
          exact k q _ ((es.trans e3).trans (Same.new hq)) ((es.trans e3).free hq) upd_same
        | some f =>
          rw [e2] at k
          intro z H2 e3 hz hz2
          walk_at "sx"
          refine ⟨fun h => h.elim, by decide, fun q hq => ?_⟩
          exact k q _ ((es.trans e3).trans (Same.new hq)) ((es.trans e3).free hq) ⟨z, upd_same, Same.new hq _ _ hz2⟩
end
end Tx

set_option maxRecDepth 100000
set_option maxHeartbeats 2000000
namespace Tx
open PySem PySem.Spec PyProof.Rows L2
local macro_rules | `(tactic| walk_at "sx") => `(tactic| simp only [cxK, tSeq, tIfS, tTest, tOp, tUn, tSl, tVar, tPart, tNoPart, tC, tRet, tRetN, tNext, tAsg, tPar, tPar3, tAug, tDrop, tB, tAnd, tOr, tNot, tAndV, tOrV, tNotV, tIf, tChain, tCons, tNil, tTup, tLst, tCall, tCB, tBM, tBM0, gName, gCons, gNil, gTup, rNe, rEq, rI0, rI, rU, rSlS, ipI, tRaiseErr, tMkErr, rAppend, tLstRg, tRg1, tRg2, L2.start, List.map_cons, List.map_nil, List.length_cons, List.length_nil, List.cons_append, List.nil_append, List.append_nil, List.getElem?_cons_zero, List.getElem?_cons_succ, List.set_cons_zero, List.set_cons_succ, Option.some.injEq, V.int.injEq, V.str.injEq, V.bl.injEq, V.ref.injEq, List.cons.injEq, exists_eq_left, exists_eq_left', exists_eq_right', exists_and_left, exists_and_right, true_and, and_true, Nat.reduceAdd, Nat.reduceSub, Nat.zero_add, List.replicate_zero, List.replicate_succ, ite_d, ite_nd, ite_b, scal, len_tx, tl_tx, eq_tx, app_tx, cut_nat, cut_to, cut_from, cut_t1, cut_t2, cut_t3, one_at, none_at, two_at, take1, take2, dr0, dr1, forall_eq', forall_eq, nc1, nc2, nc3, nca, Int.natCast_pos, Int.natCast_eq_zero, Bool.not_eq_true', Bool.not_eq_false', decide_eq_true_eq, decide_eq_false_iff_not, Bool.not_true, Bool.not_false, Decidable.not_not, WE, ex2, ex3, Nat.add_sub_add_left, Int.ofNat_lt, Int.natCast_inj, if_true, if_false, Bool.true_eq_false, Bool.false_eq_true, eq_self_iff_true, Nat.add_sub_cancel_left, Nat.add_sub_cancel, imp_false, not_false_eq_true, not_true_eq_false, forall_const, exists_and_self, reduceCtorEq, false_and, and_false, exists_false, List.cons_ne_nil, wipe, List.foldr_cons, List.foldr_nil, List.foldl_cons, List.foldl_nil, tYes, tCKw, tM1, gSub, tAugS, lit_e, lit_10, lit_32, lit_32_32, lit_32_43_32, lit_32_43_32_91_49_93, lit_32_45_32, lit_40, lit_40_41, lit_40_41_40_41, lit_40_48_32_49, lit_40_48_32_49_41, lit_40_48_32_49_41_40_50_32_49_41, lit_40_48_41, lit_41, lit_43, lit_44, lit_44_44, lit_44_51, lit_45, lit_45_48, lit_45_48_91_49_93, lit_48, lit_48_48, lit_48_49, lit_48_49_50_51_52_53_54_55_56_57, lit_49, lit_49_44_44_50, lit_50, lit_50_91_48_93_32_43_91_49_93, lit_57, lit_91, lit_91_48_49_93, lit_91_48_93, lit_91_50_93, lit_93, lit_107_105_110_100_115, lit_109_111_118_101, lit_112_97_114_115_101, lit_114_111_119, lit_116_111_108_100, lit_120])
local macro_rules | `(tactic| walk_at "sl") => `(tactic| simp only [lit_e, lit_10, lit_32, lit_32_32, lit_32_43_32, lit_32_43_32_91_49_93, lit_32_45_32, lit_40, lit_40_41, lit_40_41_40_41, lit_40_48_32_49, lit_40_48_32_49_41, lit_40_48_32_49_41_40_50_32_49_41, lit_40_48_41, lit_41, lit_43, lit_44, lit_44_44, lit_44_51, lit_45, lit_45_48, lit_45_48_91_49_93, lit_48, lit_48_48, lit_48_49, lit_48_49_50_51_52_53_54_55_56_57, lit_49, lit_49_44_44_50, lit_50, lit_50_91_48_93_32_43_91_49_93, lit_57, lit_91, lit_91_48_49_93, lit_91_48_93, lit_91_50_93, lit_93, lit_107_105_110_100_115, lit_109_111_118_101, lit_112_97_114_115_101, lit_114_111_119, lit_116_111_108_100, lit_120])
section
variable {w : World} {K : PySem.W.Frag} {mg : Str → Option Value} {base : Heap}
def kindsOc (n : Nat) (l : List Nat) : Oc := match termsAll l with
  | .error e => .parse e
  | .ok ts => match kindsOf n ts with
    | none => .own [107, 105, 110, 100, 115]
    | some f => .told f
structure KiI (l : List Nat) (n : Nat) (H : Hp) (f : Addr) (R : Except Nat (List (Int × Int))) (m : Nat) (σ : L2.St) (H' : Hp) : Prop where
  ex : ∃ (rs : List V) (ts : List (Int × Int)) (i : Nat) (sg : Int) (b : Bool) (o6 o7 o8 o9 : Option V), Same H H' ∧ H f = none ∧ H' f = some (.lst rs) ∧ Tups H' rs (ts.map fun t => [t.1, t.2]) ∧ (b = true → ts.length ≤ i) ∧ ts.length ≤ 3001 ∧ i ≤ l.length ∧ m = (if b = true then l.length + 1 - i else 0) ∧ (sg = 1 ∨ sg = -1) ∧
    (b = true → R = trms l sg i ts) ∧ (b = false → R = .ok ts) ∧ σ = [some (tx l), some (.int (n : Nat)), some (.int sg), some (.int (i : Nat)), some (.ref f), some (.bl b), o6, o7, o8, o9, none]
def sp__law_kinds_read : Sp := fun vs H Q _ => ∃ (l : List Nat) (n : Nat), vs = [tx l, .int (n : Nat)] ∧ l.length ≤ 3000 ∧ 1 ≤ n ∧ n ≤ 60 ∧ okOc H Q (kindsOc n l)
theorem ok__law_kinds_read (S : Pg K mg) : FnOk prog w K mg base CX0 3 S._law_kinds_read.f S._law_kinds_read.fd ["text", "length"] sp__law_kinds_read := by
  refine S._law_kinds_read.F.ok sc__law_kinds_read (fun vs H Q E h => ?_) (fun cdv A outer s H vs Q E hr h => ?_)
  · obtain ⟨l, n, rfl, _⟩ := h
    rfl
  · obtain ⟨l, n, rfl, hl, hn1, hn2, k⟩ := h
    refine ⟨_, (pss_cons (ps_if (pt_cmpR op_eq (pv 0) pe_str (nomark _))
    (pss_one (ps_ret (pe_tup (pa_cons pe_str (pa_cons (pe_op op_repU (pe_tup (pa_cons pe_int pa_nil)) (pv 1)) pa_nil)))))
    pss_nil)
  (pss_cons (ps_asg (pe_tup (pa_cons pe_int (pa_cons pe_int (pa_cons (pe_lst pa_nil) (pa_cons pe_bl pa_nil))))) (pg_tup rfl (pgs_cons (pg_name (i := 2) sc__law_kinds_read.nd rfl (Or.inl rfl)) (pgs_cons (pg_name (i := 3) sc__law_kinds_read.nd rfl (Or.inl rfl)) (pgs_cons (pg_name (i := 4) sc__law_kinds_read.nd rfl (Or.inl rfl)) (pgs_cons (pg_name (i := 5) sc__law_kinds_read.nd rfl (Or.inl rfl)) pgs_nil))))))
  (Evl.pss_cut (ps_if (pt_cmpR op_eq (pe_slice sl_str (pv 0) po_none (po_some pe_int)) pe_str (nomark _))
    (pss_one (ps_asg (pe_tup (pa_cons (pe_un un_neg pe_int) (pa_cons pe_int pa_nil))) (pg_tup rfl (pgs_cons (pg_name (i := 2) sc__law_kinds_read.nd rfl (Or.inl rfl)) (pgs_cons (pg_name (i := 3) sc__law_kinds_read.nd rfl (Or.inl rfl)) pgs_nil)))))
    pss_nil)
  (pss_cons (ps_if (pt_cmpR op_eq (pe_slice sl_str (pv 0) po_none (po_some pe_int)) pe_str (nomark _))
    (pss_one (ps_ret (pe_tup (pa_cons pe_str (pa_cons pe_int pa_nil)))))
    pss_nil)
  (pss_cons (ps_while PassesOwn.never (pt_val (pv 5))
    (pss_cons (ps_asg (pe_call (ok__law_term_from S) (hr.mono (by decide)) rfl S._law_term_from.m S._law_term_from.F.kp S._law_term_from.b .nil pass0 (pa_cons (pv 0) (pa_cons (pv 3) pa_nil))) (pg_tup rfl (pgs_cons (pg_name (i := 6) sc__law_kinds_read.nd rfl (Or.inl rfl)) (pgs_cons (pg_name (i := 7) sc__law_kinds_read.nd rfl (Or.inl rfl)) (pgs_cons (pg_name (i := 8) sc__law_kinds_read.nd rfl (Or.inl rfl)) (pgs_cons (pg_name (i := 9) sc__law_kinds_read.nd rfl (Or.inl rfl)) pgs_nil))))))
    (pss_cons (ps_if (pt_cmpR op_notN (pv 6) pe_non (nomark _))
      (pss_one (ps_ret (pe_tup (pa_cons pe_str (pa_cons (pv 6) pa_nil)))))
      pss_nil)
    (pss_cons (ps_expr (pe_bm PySem.F.plainAttrs_list PySem.F.slot_list_append PySem.F.type_list_append mt_append (pv 4) (pa_cons (pe_tup (pa_cons (pe_op op_mul (pv 2) (pv 7)) (pa_cons (pv 8) pa_nil))) pa_nil)))
    (pss_cons (ps_set (i := 5) sc__law_kinds_read.nd rfl (Or.inl rfl) (pe_cmpR op_lt (pv 9) (pe_callB call_len_str (by rfl) S.b_len (by decide +kernel) (pa_cons (pv 0) pa_nil)) (nomark _)))
    (pss_one (ps_if (pt_val (pv 5))
      (pss_cons (ps_if (pt_cmpR op_ne (pe_ix ix_str (pv 0) (pv 9) (fun _ _ => rfl)) pe_str (nomark _))
        (pss_one (ps_ret (pe_tup (pa_cons pe_str (pa_cons (pv 9) pa_nil)))))
        pss_nil)
      (pss_cons (ps_if (pt_cmpR op_notIn_seq (pe_slice sl_str (pv 0) (po_some (pe_op op_add (pv 9) pe_int)) (po_some (pe_op op_add (pv 9) pe_int))) (pe_tup (pa_cons pe_str (pa_cons pe_str pa_nil))) rfl)
        (pss_one (ps_ret (pe_tup (pa_cons pe_str (pa_cons (pe_op op_add (pv 9) pe_int) pa_nil)))))
        pss_nil)
      (pss_cons (ps_if (pt_cmpR op_ne (pe_slice sl_str (pv 0) (po_some (pe_op op_add (pv 9) pe_int)) (po_some (pe_op op_add (pv 9) pe_int))) pe_str (nomark _))
        (pss_one (ps_ret (pe_tup (pa_cons pe_str (pa_cons (pe_op op_add (pv 9) pe_int) pa_nil)))))
        pss_nil)
      (pss_one (ps_par (i := 2) (j := 3) (by rfl) sc__law_kinds_read.nd rfl rfl (by decide) rfl rfl (pa_cons (pe_ifExp (pt_cmpR op_eq (pe_ix ix_str (pv 0) (pe_op op_add (pv 9) pe_int) (fun _ _ => rfl)) pe_str (nomark _)) pe_int (pe_un un_neg pe_int)) (pa_cons (pe_op op_add (pv 9) pe_int) pa_nil)) (by rfl))))))
      pss_nil)))))))
  (pss_cons (ps_set (i := 10) sc__law_kinds_read.nd rfl (Or.inl rfl) (pe_op op_rep (pe_lst (pa_cons pe_int pa_nil)) (pv 1)))
  (pss_cons (ps_for PassesOwn.never rfl (pi_list (pv 4)) (pg_tup rfl (pgs_cons (pg_name (i := 7) sc__law_kinds_read.nd rfl (Or.inl rfl)) (pgs_cons (pg_name (i := 8) sc__law_kinds_read.nd rfl (Or.inl rfl)) pgs_nil)))
    (pss_cons (ps_if (pt_cmpR op_ge (pv 8) (pv 1) (nomark _))
      (pss_one (ps_ret (pe_tup (pa_cons pe_str pa_nil))))
      pss_nil)
    (pss_one (ps_asg (pe_op op_add (pe_ix ix_list (pv 10) (pv 8) (fun _ _ => rfl)) (pv 7)) (pg_sub (pv 10) (pv 8) set_list)))))
  (pss_one (ps_ret (pe_ifExp (pt_cmpR op_lt (pe_callB (cr_max rfl) (by rfl) S.b_max (by decide +kernel) (pa_cons (pe_lc (own := [("number", 7)]) rfl sc__law_kinds_read.nd (pi_list (pv 10)) (blkOk_by (N := ["text", "length", "sign", "here", "terms", "is_open", "wrong", "number", "index", "behind", "found"]) (sc := defScope (top 51)) (by decide +kernel)) (fun _ _ _ _ _ => (pg_name (i := 7) sc__law_kinds_read.nd rfl (Or.inl rfl))) (fun _ _ _ _ _ => pts_nil) (fun _ _ _ _ _ => (pe_callB call_abs (by rfl) S.b_abs (by decide +kernel) (pa_cons (pv 7) pa_nil)))) pa_nil)) (pe_op op_pow pe_int pe_int) (nomark _)) (pe_tup (pa_cons pe_str (pa_cons (pe_callTy call_tuple_of (by rfl) S.b_tuple (by decide +kernel) (pa_cons (pv 10) pa_nil)) pa_nil))) (pe_tup (pa_cons pe_str pa_nil)))))))))))), ?_⟩
    walk_at "sx"
    refine ⟨fun c => ?_, fun c => ?_⟩
    · have e1 : termsAll l = .ok [] := if_pos c
      have e2 : kindsOf n [] = some (List.replicate n 0) := by
        unfold kindsOf
        rw [if_neg (by simp), if_pos]
        · rfl
        · exact List.all_eq_true.mpr fun x hx => by
            rw [List.eq_of_mem_replicate hx]
            decide
      unfold kindsOc at k
      rw [e1] at k
      simp only [e2] at k
      refine ⟨by decide, fun p hp => ⟨p, n, [V.int 0], rfl, rfl, SqT.of upd_same, by simp, by omega, by omega, by decide, fun q hq => ⟨by decide, fun z hz => ?_⟩, fun h1 => ⟨by decide, fun z hz => ?_⟩⟩⟩
      · refine k z _ (((Same.new hp).trans (Same.new hq)).trans (Same.new hz)) (((Same.new hp).trans (Same.new hq)).free hz) ⟨q, upd_same, ?_⟩
        rw [upd_ne (ne_of_none upd_same hz), upd_same, Int.toNat_natCast, rep1, List.map_replicate]
      · have hn : n = 1 := by omega
        subst hn
        exact k z _ ((Same.new hp).trans (Same.new hz)) ((Same.new hp).free hz) ⟨p, upd_same, by rw [upd_ne (ne_of_none upd_same hz), upd_same]; rfl⟩
    refine ⟨by decide, fun f hf => ⟨by decide, fun t0 ht0 => unp upd_same rfl ?_⟩⟩
    have eT : termsAll l = termsOf l := if_neg c
    unfold kindsOc at k
    rw [eT] at k
    walk_at "sx"
    have e0 : Same H (upd (upd H f (.lst [])) t0 (.tup [.int 1, .int 0, .ref f, .bl true])) := (Same.new hf).trans (Same.new ht0)
    have hff0 : upd (upd H f (.lst [])) t0 (.tup [.int 1, .int 0, .ref f, .bl true]) f = some (.lst []) := Same.new ht0 _ _ upd_same
    generalize upd (upd H f (.lst [])) t0 (.tup [.int 1, .int 0, .ref f, .bl true]) = H0 at e0 hff0
    refine ⟨fun σ' H' => Same H H' ∧ H' f = some (.lst []) ∧ ((l[0]? = some 45 ∧ σ' = [some (tx l), some (.int (n : Nat)), some (.int (-1)), some (.int ((1 : Nat) : Int)), some (.ref f), some (.bl true), none, none, none, none, none]) ∨ (l[0]? ≠ some 45 ∧ σ' = [some (tx l), some (.int (n : Nat)), some (.int 1), some (.int ((0 : Nat) : Int)), some (.ref f), some (.bl true), none, none, none, none, none])), ?_, ?_⟩
    · walk_at "sx"
      refine ⟨sz_of (by omega), fun c => ⟨by decide, fun p hp => unp upd_same rfl ?_⟩, fun c => ⟨e0, hff0, .inr ⟨c, rfl⟩⟩⟩
      exact ⟨_, _, rfl, _, _, rfl, rfl, e0.trans (Same.new hp), Same.new hp _ _ hff0, .inl ⟨c, rfl, rfl⟩⟩
    rintro σ' H1 ⟨e1', hff1, hσ⟩
    have hs : ∃ (sg : Int) (i : Nat), σ' = [some (tx l), some (.int (n : Nat)), some (.int sg), some (.int (i : Nat)), some (.ref f), some (.bl true), none, none, none, none, none] ∧ (sg = 1 ∨ sg = -1) ∧ i ≤ 1 ∧ (¬ (l[0]? = some 45 ∧ l[1]? = some 48) → termsOf l = trms l sg i []) ∧ i ≤ l.length := by
      rcases hσ with ⟨c, h⟩ | ⟨c, h⟩
      · refine ⟨-1, 1, h, .inr rfl, by omega, fun z => ?_, (List.getElem?_eq_some_iff.mp c).1⟩
        unfold termsOf
        rw [if_pos c, if_neg (fun y => z ⟨c, y⟩)]
      · refine ⟨1, 0, h, .inl rfl, by omega, fun z => ?_, Nat.zero_le _⟩
        unfold termsOf
        rw [if_neg c]
    obtain ⟨sg, i, rfl, hsg, hi, ht, hil⟩ := hs
    walk_at "sx"
    refine ⟨sz_of (by omega), fun c => ?_, fun c => ?_⟩
    · have e1 : termsOf l = .error 1 := by
        unfold termsOf
        rw [if_pos c.1, if_pos c.2]
      rw [e1] at k
      exact ⟨by decide, fun p hp => k p _ (e1'.trans (Same.new hp)) (e1'.free hp) upd_same⟩
    rw [ht c] at k
    refine ⟨KiI l n H f (trms l sg i []), ⟨_, ⟨[], [], i, sg, true, _, _, _, _, e1', hf, hff1, .nil, fun _ => Nat.zero_le _, Nat.zero_le _, hil, rfl, hsg, fun _ => rfl, (fun h => nomatch h), rfl⟩⟩, ?_⟩
    clear hσ ht hi hil hsg hff1 e1' hff0 e0
    have hTk : ∀ ts, trms l sg i [] = .ok ts → TermsOk ts := fun ts h => trms_ok _ _ _ _ _ termsOk_nil h
    generalize hR : trms l sg i [] = R at k hTk
    clear hR
    rintro m σ H2 ⟨rs, ts, j, sg2, b, o6, o7, o8, o9, e2, hf0, hff, hts, hcl, hcl2, hj, rfl, hs2, hb1, hb2, rfl⟩
    have hlr : rs.length = ts.length := by
      have z := Paired.length hts
      rw [List.length_map] at z
      exact z
    cases b with
    | true =>
      have hR := hb1 rfl
      walk_at "sx"
      refine ⟨⟨_, fun _ _ h => h, l, j, rfl, by omega, ?_⟩, fun h => h.elim⟩
      cases e3 : trm l j with
      | error e =>
        rw [hR, trms_err e3] at k
        intro p3 H3 u v w e4 hp3 h3
        walk_at "sx"
        refine unp h3 rfl ?_
        walk_at "sx"
        exact ⟨⟨by decide, fun q hq => k q _ ((e2.trans e4).trans (Same.new hq)) ((e2.trans e4).free hq) upd_same⟩, fun h => h.elim⟩
      | ok y =>
        obtain ⟨x3, p3, j3⟩ := y
        obtain ⟨r1, r2, r3⟩ := trm_ok e3
        have hR2 : R = aftT l j3 (ts ++ [(sg2 * x3, p3)]) := by rw [hR, trms_go e3]
        have hcl3 := hcl rfl
        rw [hR2] at k
        intro p4 H3 e4 hp4 h4
        walk_at "sx"
        refine unp h4 rfl ?_
        walk_at "sx"
        have hff3 := e4 _ _ hff
        have hts3 := hts.go e4
        refine ⟨fun h => h.elim, Or.inl ⟨rfl, _, Or.inl (Or.inl hff3)⟩, cmul1 hs2, by decide, fun t ht => ?_⟩
        have hff4 : upd H3 t (.tup [V.int (sg2 * x3), V.int p3]) f = some (.lst rs) := Same.new ht _ _ hff3
        refine ⟨rs, hff4, sz_lt (by omega), sz_of (by omega), ?_⟩
        have e5 : Same H (upd (upd H3 t (.tup [V.int (sg2 * x3), V.int p3])) f (.lst (rs ++ [.ref t]))) := Same.mut ((e2.trans e4).trans (Same.new ht)) hf0
        have hff5 : upd (upd H3 t (.tup [V.int (sg2 * x3), V.int p3])) f (.lst (rs ++ [.ref t])) f = some (.lst (rs ++ [.ref t])) := upd_same
        have hts5 : Tups (upd (upd H3 t (.tup [V.int (sg2 * x3), V.int p3])) f (.lst (rs ++ [.ref t]))) (rs ++ [.ref t]) ((ts ++ [(sg2 * x3, p3)]).map fun t => [t.1, t.2]) := by
          rw [List.map_append]
          exact PySem.Paired.snoc (Tups.mut (hts3.go (Same.new ht)) hff4) ⟨t, rfl, by rw [upd_ne (Ne.symm (ne_of_none hff3 ht)), upd_same]; rfl⟩
        have hlt5 : (ts ++ [(sg2 * x3, p3)]).length = ts.length + 1 := by rw [List.length_append, List.length_singleton]
        generalize upd (upd H3 t (.tup [V.int (sg2 * x3), V.int p3])) f (.lst (rs ++ [.ref t])) = H5 at e5 hff5 hts5
        unfold aftT at k hR2
        refine ⟨fun c1 => ?_, fun c1 => ?_⟩
        · rw [if_pos c1] at k hR2
          refine ixS_of (by omega) (List.getElem?_eq_getElem c1) ?_
          walk_at "sx"
          refine ⟨fun c2 => ⟨by decide, fun q hq => ?_⟩, fun c2 => ⟨sz_of (by omega), by decide, fun q hq => notIn2 upd_same ?_⟩⟩
          · rw [if_pos (by rw [List.getElem?_eq_getElem c1]; intro z; exact c2 (Option.some.inj z))] at k
            exact k q _ (e5.trans (Same.new hq)) (e5.free hq) upd_same
          · have c2' : ¬ l[j3]? ≠ some 32 := fun z => z (by rw [List.getElem?_eq_getElem c1, c2])
            rw [if_neg c2'] at k hR2
            have e6 : Same H (upd H5 q (.tup [tx [43], tx [45]])) := e5.trans (Same.new hq)
            have hff6 : upd H5 q (.tup [tx [43], tx [45]]) f = some (.lst (rs ++ [.ref t])) := Same.new hq _ _ hff5
            have hts6 := hts5.go (Same.new (o := .tup [tx [43], tx [45]]) hq)
            generalize upd H5 q (.tup [tx [43], tx [45]]) = H6 at e6 hff6 hts6
            walk_at "sx"
            refine ⟨fun c3 => ⟨by decide, fun q hq => ?_⟩, fun c3 => ⟨sz_of (by omega), fun c5 => ⟨by decide, fun q hq => ?_⟩, fun c5 => ?_⟩⟩
            · rw [if_neg c3] at k
              exact k q _ (e6.trans (Same.new hq)) (e6.free hq) upd_same
            · rw [if_pos c3, if_neg c5] at k
              exact k q _ (e6.trans (Same.new hq)) (e6.free hq) upd_same
            · rw [if_pos c3, if_pos c5] at k hR2
              have hj5 : j3 + 2 < l.length := (List.getElem?_eq_some_iff.mp c5).1
              rcases c3 with c4 | c4
              · refine ixS_of (by omega) c4 ?_
                walk_at "sx"
                rw [if_pos c4] at hR2
                rw [decide_eq_true c1]
                exact ⟨⟨l.length + 1 - (j3 + 3), by omega, ⟨_, _, j3 + 3, 1, true, _, _, _, _, e6, hf0, hff6, hts6, fun _ => by omega, by omega, by omega, rfl, .inl rfl, fun _ => hR2, (fun h => nomatch h), rfl⟩⟩, fun h => h.elim⟩
              · refine ixS_of (by omega) c4 ?_
                walk_at "sx"
                rw [if_neg (by rw [c4]; decide)] at hR2
                rw [decide_eq_true c1]
                exact ⟨fun h => absurd h (by decide), fun _ => ⟨l.length + 1 - (j3 + 3), by omega, ⟨_, _, j3 + 3, -1, true, _, _, _, _, e6, hf0, hff6, hts6, fun _ => by omega, by omega, by omega, rfl, .inr rfl, fun _ => hR2, (fun h => nomatch h), rfl⟩⟩⟩
        · rw [if_neg c1] at k hR2
          rw [decide_eq_false c1]
          exact ⟨0, by omega, ⟨_, _, j, sg2, false, _, _, _, _, e5, hf0, hff5, hts5, (fun h => nomatch h), by omega, hj, rfl, hs2, (fun h => nomatch h), fun _ => hR2, rfl⟩⟩
    | false =>
      have hR := hb2 rfl
      rw [hR] at k
      have q1 := hTk ts hR
      dsimp only at k
      walk_at "sx"
      refine ⟨fun h => h.elim, by decide, fun z0 hz0 => ⟨z0, n, _, rfl, rfl, upd_same, by omega, by omega, by rw [Int.toNat_natCast]; exact sz_of (by simp only [List.length_cons, List.length_nil]; omega), fun z hz => ?_⟩⟩
      have hr : (List.replicate ((n : Int)).toNat [V.int 0]).flatten = (sumT n []).map V.int := by
        rw [Int.toNat_natCast]
        show _ = (List.replicate n (0 : Int)).map V.int
        rw [List.map_replicate]
        exact rep1 n _
      rw [hr]
      have e3 : Same H2 (upd (upd H2 z0 (.lst [V.int 0])) z (.lst ((sumT n []).map V.int))) := (Same.new hz0).trans (Same.new hz)
      refine for_it (xs := rs) (P := fun H' => SqL K H' f rs) (fun R h => ⟨_, rfl, _, rfl, ⟨_, SqL.of (e3 _ _ hff)⟩, h⟩) itL (fun i σ H' => ∃ o7 o8, Same H2 H' ∧ H2 z = none ∧ H' z = some (.lst ((sumT n (ts.take i)).map V.int)) ∧ (∀ t ∈ ts.take i, t.2 < (n : Int)) ∧ σ = [some (tx l), some (.int (n : Nat)), some (.int sg2), some (.int (j : Nat)), some (.ref f), some (.bl false), o6, o7, o8, o9, some (.ref z)]) ⟨_, _, e3, (Same.new hz0).free hz, upd_same, by simp, rfl⟩ (fun i σ H' hi ⟨o4, o5, e, _⟩ => SqL.of (e _ _ hff)) ?_ ?_
      · rintro i x σ H3 hx ⟨o7, o8, e5, hz1, hzz, hall, rfl⟩
        obtain ⟨c2, hc2, b, rfl, hb⟩ := pget hts hx
        rw [List.getElem?_map] at hc2
        obtain ⟨t, ht1, rfl⟩ := Option.map_eq_some_iff.mp hc2
        have htm := List.mem_of_getElem? ht1
        have ht0 := q1 t htm
        have e7 := e2.trans e5
        walk_at "sx"
        refine unp (e5 _ _ hb) rfl ?_
        walk_at "sx"
        refine ⟨fun c5 => ⟨by decide, fun q hq => ?_⟩, fun c5 => ?_⟩
        · have : kindsOf n ts = none := if_pos (List.any_eq_true.mpr ⟨t, htm, decide_eq_true c5⟩)
          rw [this] at k
          exact k q _ (e7.trans (Same.new hq)) (e7.free hq) upd_same
        · obtain ⟨k2, hk2⟩ : ∃ k2 : Nat, t.2 = (k2 : Int) := ⟨t.2.toNat, by omega⟩
          have hl2 : ((sumT n (ts.take i)).map V.int).length = n := by rw [List.length_map, sumT_len]
          have hk3 : k2 < (sumT n (ts.take i)).length := by rw [sumT_len]; omega
          rw [hk2]
          refine ixL_of (SqL.of hzz) (v := .int ((sumT n (ts.take i)).getD k2 0)) (atI_nat ?_) ?_
          · rw [List.getElem?_map, List.getD_eq_getElem?_getD, List.getElem?_eq_getElem hk3]
            rfl
          walk_at "sx"
          refine ⟨z, _, _, k2, rfl, rfl, hzz, by rw [hl2]; exact ixN_nat (by omega), Same.mut e5 hz1, hz1, ?_, ?_⟩
          · rw [upd_same, List.take_succ, ht1]
            show _ = some (HO.lst ((sumT n (ts.take i ++ [t])).map V.int))
            rw [sumT_snoc, addT, hk2, Int.toNat_natCast, List.map_set]
          · rw [List.take_succ, ht1]
            intro y hy
            rcases List.mem_append.mp hy with hy | hy
            · exact hall y hy
            · have : y = t := by simpa using hy
              rw [this]
              omega
      · rintro σ H3 ⟨o7, o8, e5, hz1, hzz, hall, rfl⟩
        rw [hlr, List.take_length] at hzz hall
        have e7 := e2.trans e5
        have hkn : kindsOf n ts = if (sumT n ts).all isI = true then some (sumT n ts) else none := if_neg (by
          intro y
          obtain ⟨t, ht, ht2⟩ := List.any_eq_true.mp y
          have := hall t ht
          have := of_decide_eq_true ht2
          omega)
        rw [hkn] at k
        walk_at "sx"
        refine lc_map (xs := (sumT n ts).map V.int) (P := fun H' => SqL K H' z ((sumT n ts).map V.int)) (fun x => match x with | .int n => .int (if n < 0 then -n else n) | _ => x) (fun R h => ⟨_, rfl, _, rfl, ⟨_, SqL.of hzz⟩, h⟩) itL (fun H' e => SqL.of (e _ _ hzz)) (by rw [List.length_map, sumT_len]; omega) (fun x H' Ny hx e hy => ?_) (fun D H4 hD e h => ?_)
        · obtain ⟨n1, hn, rfl⟩ := List.mem_map.mp hx
          walk_at "sx"
          exact hy _ (Same.refl _)
        · have h2 : H4 D = some (.lst (((sumT n ts).map fun n => if n < 0 then -n else n).map V.int)) := by
            rw [h, List.map_map, List.map_map]
            rfl
          refine ⟨D, _, rfl, SqL.of h2, by rw [List.length_map, sumT_len]; omega, fun m hm hmx => ?_⟩
          have e8 := e7.trans e
          have hz4 := e _ _ hzz
          walk_at "sx"
          obtain ⟨m0, hm0, hm1⟩ := List.mem_map.mp hm
          refine ⟨⟨by decide, by decide, by decide⟩, fun c6 => ⟨_, .inl ⟨SqL.of hz4, fun q hq => ⟨by decide, fun y hy => ?_⟩⟩⟩, fun c6 => ⟨by decide, fun y hy => ?_⟩⟩
          · have ha : (sumT n ts).all isI = true := List.all_eq_true.mpr fun x hx => by
              have := hmx _ (List.mem_map_of_mem hx)
              refine decide_eq_true ?_
              have e60 : ((10 : Int) ^ Int.toNat 60) = 10 ^ 60 := rfl
              rw [e60] at c6
              split at this <;> omega
            rw [if_pos ha] at k
            refine k y _ ((e8.trans (Same.new hq)).trans (Same.new hy)) ((e8.trans (Same.new hq)).free hy) ⟨q, upd_same, ?_⟩
            rw [upd_ne (ne_of_none upd_same hy), upd_same]
          · have ha : ¬ (sumT n ts).all isI = true := fun z => by
              have h1 := of_decide_eq_true (List.all_eq_true.mp z m0 hm0)
              have e60 : ((10 : Int) ^ Int.toNat 60) = 10 ^ 60 := rfl
              rw [e60] at c6
              split at hm1 <;> omega
            rw [if_neg ha] at k
            exact k y _ (e8.trans (Same.new hy)) (e8.free hy) upd_same
end
end Tx

set_option maxRecDepth 100000
set_option maxHeartbeats 2000000
namespace Tx
open PySem PySem.Spec PyProof.Rows L2
local macro_rules | `(tactic| walk_at "sx") => `(tactic| simp only [cxK, tSeq, tIfS, tTest, tOp, tUn, tSl, tVar, tPart, tNoPart, tC, tRet, tRetN, tNext, tAsg, tPar, tPar3, tAug, tDrop, tB, tAnd, tOr, tNot, tAndV, tOrV, tNotV, tIf, tChain, tCons, tNil, tTup, tLst, tCall, tCB, tBM, tBM0, gName, gCons, gNil, gTup, rNe, rEq, rI0, rI, rU, rSlS, ipI, tRaiseErr, tMkErr, rAppend, tLstRg, tRg1, tRg2, L2.start, List.map_cons, List.map_nil, List.length_cons, List.length_nil, List.cons_append, List.nil_append, List.append_nil, List.getElem?_cons_zero, List.getElem?_cons_succ, List.set_cons_zero, List.set_cons_succ, Option.some.injEq, V.int.injEq, V.str.injEq, V.bl.injEq, V.ref.injEq, List.cons.injEq, exists_eq_left, exists_eq_left', exists_eq_right', exists_and_left, exists_and_right, true_and, and_true, Nat.reduceAdd, Nat.reduceSub, Nat.zero_add, List.replicate_zero, List.replicate_succ, ite_d, ite_nd, ite_b, scal, len_tx, tl_tx, eq_tx, app_tx, cut_nat, cut_to, cut_from, cut_t1, cut_t2, cut_t3, one_at, none_at, two_at, take1, take2, dr0, dr1, forall_eq', forall_eq, nc1, nc2, nc3, nca, Int.natCast_pos, Int.natCast_eq_zero, Bool.not_eq_true', Bool.not_eq_false', decide_eq_true_eq, decide_eq_false_iff_not, Bool.not_true, Bool.not_false, Decidable.not_not, WE, ex2, ex3, Nat.add_sub_add_left, Int.ofNat_lt, Int.natCast_inj, if_true, if_false, Bool.true_eq_false, Bool.false_eq_true, eq_self_iff_true, Nat.add_sub_cancel_left, Nat.add_sub_cancel, imp_false, not_false_eq_true, not_true_eq_false, forall_const, exists_and_self, reduceCtorEq, false_and, and_false, exists_false, List.cons_ne_nil, wipe, List.foldr_cons, List.foldr_nil, List.foldl_cons, List.foldl_nil, tYes, tCKw, tM1, gSub, tAugS, lit_e, lit_10, lit_32, lit_32_32, lit_32_43_32, lit_32_43_32_91_49_93, lit_32_45_32, lit_40, lit_40_41, lit_40_41_40_41, lit_40_48_32_49, lit_40_48_32_49_41, lit_40_48_32_49_41_40_50_32_49_41, lit_40_48_41, lit_41, lit_43, lit_44, lit_44_44, lit_44_51, lit_45, lit_45_48, lit_45_48_91_49_93, lit_48, lit_48_48, lit_48_49, lit_48_49_50_51_52_53_54_55_56_57, lit_49, lit_49_44_44_50, lit_50, lit_50_91_48_93_32_43_91_49_93, lit_57, lit_91, lit_91_48_49_93, lit_91_48_93, lit_91_50_93, lit_93, lit_107_105_110_100_115, lit_109_111_118_101, lit_112_97_114_115_101, lit_114_111_119, lit_116_111_108_100, lit_120])
local macro_rules | `(tactic| walk_at "sl") => `(tactic| simp only [lit_e, lit_10, lit_32, lit_32_32, lit_32_43_32, lit_32_43_32_91_49_93, lit_32_45_32, lit_40, lit_40_41, lit_40_41_40_41, lit_40_48_32_49, lit_40_48_32_49_41, lit_40_48_32_49_41_40_50_32_49_41, lit_40_48_41, lit_41, lit_43, lit_44, lit_44_44, lit_44_51, lit_45, lit_45_48, lit_45_48_91_49_93, lit_48, lit_48_48, lit_48_49, lit_48_49_50_51_52_53_54_55_56_57, lit_49, lit_49_44_44_50, lit_50, lit_50_91_48_93_32_43_91_49_93, lit_57, lit_91, lit_91_48_49_93, lit_91_48_93, lit_91_50_93, lit_93, lit_107_105_110_100_115, lit_109_111_118_101, lit_112_97_114_115_101, lit_114_111_119, lit_116_111_108_100, lit_120])
section
variable {w : World} {K : PySem.W.Frag} {mg : Str → Option Value} {base : Heap}
theorem Bg.free {g : Addr} {H H' : Hp} {a : Addr} (e : Bg g H H') (h : H' a = none) : a = g ∨ H a = none := by
  by_cases hg : a = g
  · exact .inl hg
  · right
    cases h2 : H a with
    | none => rfl
    | some u => 
      rw [e a u hg h2] at h
      cases h
theorem Bg.mut {g : Addr} {H H' : Hp} {p : Addr} {o : HO} (e : Bg g H H') (h : H p = none) : Bg g H (upd H' p o) := fun a u n ha => by
  rw [upd_ne (ne_of_none ha h)]
  exact e a u n ha
theorem Bg.refl {g : Addr} {H : Hp} : Bg g H H := fun _ _ _ h => h
theorem rgI_nodup (p : Nat) : (rgI p).Nodup := by
  unfold rgI
  exact List.Pairwise.map _ (fun a b (h : a ≠ b) => fun e => h (by omega)) List.nodup_range
theorem rgI_nn {p : Nat} : ∀ x ∈ rgI p, 0 ≤ x := by
  intro x hx
  obtain ⟨i, hi, rfl⟩ := List.mem_map.mp hx
  omega
structure DrI (g l f : Addr) (H : Hp) (p : Nat) (i : Nat) (σ : L2.St) (H' : Hp) : Prop where
  ex : ∃ (xs ys : List Int) (o : Option V), Bg g H H' ∧ IsBag H' g ∧ H l = none ∧ H f = none ∧ l ≠ f ∧ H' l = some (.lst (xs.map V.int)) ∧ H' f = some (.lst (ys.map V.int)) ∧ (ys ++ xs).Nodup ∧ (∀ x ∈ ys ++ xs, 0 ≤ x ∧ x < (p : Int)) ∧ ys.length = i ∧ ys.length + xs.length = p ∧
    σ = [some (.ref g), some (.int (p : Nat)), some (.ref l), some (.ref f), o]
def sp__law_move_drawn : Sp := fun vs H Q _ => ∃ (g : Addr) (p : Nat), vs = [.ref g, .int (p : Nat)] ∧ IsBag H g ∧ 1 ≤ p ∧ p ≤ 24 ∧
  ∀ (ns : List Int) (a : Addr) H', Bg g H H' → IsBag H' g → H a = none → H' a = some (.tup (ns.map V.int)) → IsMove p ns → Q (.ref a) H'
theorem ok__law_move_drawn (S : Pg K mg) : FnOk prog w K mg base CX0 2 S._law_move_drawn.f S._law_move_drawn.fd ["bag", "places"] sp__law_move_drawn := by
  refine S._law_move_drawn.F.ok sc__law_move_drawn (fun vs H Q E h => ?_) (fun cdv A outer s H vs Q E hr h => ?_)
  · obtain ⟨g, p, rfl, _⟩ := h
    rfl
  · obtain ⟨g, p, rfl, hb, hp1, hp2, k⟩ := h
    refine ⟨_, (pss_cons (ps_par (i := 2) (j := 3) (by rfl) sc__law_move_drawn.nd rfl rfl (by decide) rfl rfl (pa_cons (pe_listRg rfl (by rfl) S.b_list (prg_1 (by rfl) S.b_range (pv 1))) (pa_cons (pe_lst pa_nil) pa_nil)) (by rfl))
  (pss_cons (ps_for PassesOwn.never rfl (pi_range1 (by rfl) S.b_range (pa_cons (pv 1) pa_nil)) (pg_name (i := 4) sc__law_move_drawn.nd rfl (Or.inl rfl))
    (pss_one (ps_expr (pe_bm PySem.F.plainAttrs_list PySem.F.slot_list_append PySem.F.type_list_append mt_append (pv 3) (pa_cons (pe_bm PySem.F.plainAttrs_list PySem.F.slot_list_pop PySem.F.type_list_pop mt_popAt (pv 2) (pa_cons (pe_call (ok__law_grab S) (hr.mono (by decide)) rfl S._law_grab.m S._law_grab.F.kp S._law_grab.b .nil pass0 (pa_cons (pv 0) (pa_cons (pe_callB call_len_seq (by rfl) S.b_len (by decide +kernel) (pa_cons (pv 2) pa_nil)) pa_nil))) pa_nil)) pa_nil)))))
  (pss_one (ps_ret (pe_callTy call_tuple_of (by rfl) S.b_tuple (by decide +kernel) (pa_cons (pv 3) pa_nil)))))), ?_⟩
    walk_at "sx"
    refine ⟨RgOk.of_le (by omega) (by omega) (by omega) (by omega), fun l hl => ⟨Nat.zero_le _, fun f hf => ?_⟩⟩
    rw [rgV_rgI] at hf ⊢
    obtain ⟨b0, b1, b2, hg⟩ := hb
    have hlf : l ≠ f := ne_of_none upd_same hf
    have hgl : g ≠ l := ne_of_none hg hl
    have hgf : g ≠ f := ne_of_none (Same.new hl _ _ hg) hf
    have hf0 : H f = none := (Same.new hl).free hf
    refine for_it (fun R h => ⟨_, rfl, p, rfl, by omega, by omega, h⟩) (itR (lo := 0) (n := ((p : Nat) : Int).toNat)) (fun i σ H' => DrI g l f H p i σ H') ⟨rgI p, [], _, Bg.same ((Same.new hl).trans (Same.new hf)), ⟨b0, b1, b2, by rw [upd_ne hgf, upd_ne hgl]; exact hg⟩, hl, hf0, hlf, by rw [upd_ne hlf, upd_same], upd_same, ?_, ?_, rfl, by rw [rgI_len]; simp, rfl⟩ (fun _ _ _ _ _ => True.intro) ?_ ?_
    · rw [List.nil_append]
      exact rgI_nodup p
    · rw [List.nil_append]
      exact fun x hx => ⟨rgI_nn x hx, rgI_lt x hx⟩
    · rintro i x σ H3 hx ⟨xs, ys, o, e3, ⟨c0, c1, c2, hg3⟩, hl0, hf1, hne, hll, hff, hnd, hal, hyl, hsum, rfl⟩
      have hip : i < p := by
        have := (List.getElem?_eq_some_iff.mp hx).1
        rw [List.length_map, List.length_range] at this
        omega
      walk_at "sx"
      refine ⟨Or.inl ⟨rfl, _, Or.inl (Or.inl hff)⟩, Or.inl ⟨rfl, _, Or.inl (Or.inl hll)⟩, _, .inl (SqL.of hll), ?_⟩
      rw [List.length_map]
      refine ⟨g, c0, c1, c2, _, rfl, hg3, by omega, by omega, fun r x1 y1 z1 h0 h1 => ?_⟩
      obtain ⟨j, rfl⟩ := Int.eq_ofNat_of_zero_le h0
      have hj : j < xs.length := by omega
      have hll4 : upd H3 g (.lst [.int x1, .int y1, .int z1]) l = some (.lst (xs.map V.int)) := by rw [upd_ne (Ne.symm hgl)]; exact hll
      refine ⟨l, xs.map V.int, j, j, .int xs[j], rfl, rfl, hll4, by omega, by omega, ?_, ?_, ?_⟩
      · rw [seqIndex_of (by omega) (by rw [List.length_map]; omega), Int.toNat_natCast]
      · rw [List.getElem?_map, List.getElem?_eq_getElem hj]
        rfl
      have hff5 : upd (upd H3 g (.lst [.int x1, .int y1, .int z1])) l (.lst ((xs.map V.int).eraseIdx j)) f = some (.lst (ys.map V.int)) := by
        rw [upd_ne (Ne.symm hne), upd_ne (Ne.symm hgf)]
        exact hff
      have pm : (xs[j] :: xs.eraseIdx j).Perm xs := erase_perm xs j hj
      have pm2 : ((ys ++ [xs[j]]) ++ xs.eraseIdx j).Perm (ys ++ xs) := by
        rw [List.append_assoc]
        exact List.Perm.append_left ys pm
      refine ⟨_, hff5, sz_lt (by rw [List.length_map]; omega), ⟨xs.eraseIdx j, ys ++ [xs[j]], _, ?_, ⟨x1, y1, z1, by rw [upd_ne hgf, upd_ne hgl, upd_same]⟩, hl0, hf1, hne, ?_, ?_, pm2.nodup_iff.mpr hnd, fun z hz => hal z (pm2.mem_iff.mp hz), ?_, ?_, rfl⟩⟩
      · exact Bg.mut (Bg.mut (e3.trans Bg.put) hl0) hf1
      · rw [upd_ne hne, upd_same, erase_map]
      · rw [upd_same, List.map_append]
        rfl
      · rw [List.length_append, List.length_singleton, hyl]
      · have := pm.length_eq
        rw [List.length_cons] at this
        rw [List.length_append, List.length_singleton]
        omega
    · rintro σ H3 ⟨xs, ys, o, e3, hg3, hl0, hf1, hne, hll, hff, hnd, hal, hyl, hsum, rfl⟩
      rw [List.length_map, List.length_range, Int.toNat_natCast] at hyl
      have hx0 : xs = [] := List.eq_nil_of_length_eq_zero (by omega)
      subst hx0
      rw [List.append_nil] at hnd hal
      walk_at "sx"
      refine ⟨_, .inl ⟨SqL.of hff, fun z hz => ?_⟩⟩
      have hz0 : H z = none := by
        rcases Bg.free e3 hz with h | h
        · rw [h] at hz
          obtain ⟨_, _, _, h2⟩ := hg3
          rw [h2] at hz
          cases hz
        · exact h
      refine k ys z _ (e3.trans (Bg.same (Same.new hz))) ?_ hz0 upd_same ⟨hyl, hnd, hal⟩
      obtain ⟨d0, d1, d2, h2⟩ := hg3
      exact ⟨d0, d1, d2, Same.new hz _ _ h2⟩
structure CyI (a : Addr) (ns : List Int) (f : Addr) (H : Hp) (n : Nat) (i : Nat) (σ : L2.St) (H' : Hp) : Prop where
  ex : ∃ (rs : List V) (cs : List (List Int)) (kn : Addr) (ks : List Int) (o3 o4 o5 : Option V), Same H H' ∧ H f = none ∧ H' f = some (.lst rs) ∧ Tups H' rs cs ∧ cs.length ≤ i ∧ (∀ c ∈ cs, c.length ≤ n ∧ ∀ x ∈ c, 0 ≤ x ∧ x < (n : Int)) ∧ f ≠ kn ∧ H' kn = some (.lst (ks.map V.int)) ∧ ks.length ≤ i * n ∧
    σ = [some (.ref a), some (.ref f), some (.ref kn), o3, o4, o5]
def sp__law_cycles : Sp := fun vs H Q _ => ∃ (a : Addr) (ns : List Int) (n : Nat), vs = [.ref a] ∧ H a = some (.tup (ns.map V.int)) ∧ IsMove n ns ∧ n ≤ 24 ∧
  ∀ b rs (cs : List (List Int)) H', Same H H' → H b = none → H' b = some (.lst rs) → Tups H' rs cs → cs.length ≤ n → (∀ c ∈ cs, c.length ≤ n ∧ ∀ x ∈ c, 0 ≤ x ∧ x < (n : Int)) → Q (.ref b) H'
theorem ok__law_cycles (S : Pg K mg) : FnOk prog w K mg base CX0 1 S._law_cycles.f S._law_cycles.fd ["move"] sp__law_cycles := by
  refine S._law_cycles.F.ok sc__law_cycles (fun vs H Q E h => ?_) (fun cdv A outer s H vs Q E hr h => ?_)
  · obtain ⟨a, ns, n, rfl, _⟩ := h
    rfl
  · obtain ⟨a, ns, n, rfl, ha, hm, hn, k⟩ := h
    refine ⟨_, (pss_cons (ps_par (i := 1) (j := 2) (by rfl) sc__law_cycles.nd rfl rfl (by decide) rfl rfl (pa_cons (pe_lst pa_nil) (pa_cons (pe_lst pa_nil) pa_nil)) (by rfl))
  (pss_cons (ps_for PassesOwn.never rfl (pi_range1 (by rfl) S.b_range (pa_cons (pe_callB call_len_seq (by rfl) S.b_len (by decide +kernel) (pa_cons (pv 0) pa_nil)) pa_nil)) (pg_name (i := 3) sc__law_cycles.nd rfl (Or.inl rfl))
    (pss_one (ps_if (pt_cmpR op_notIn_seq (pv 3) (pv 2) rfl)
      (pss_cons (ps_par (i := 4) (j := 5) (by rfl) sc__law_cycles.nd rfl rfl (by decide) rfl rfl (pa_cons (pe_lst (pa_cons (pv 3) pa_nil)) (pa_cons (pe_ix ix_tup (pv 0) (pv 3) (fun _ _ => rfl)) pa_nil)) (by rfl))
      (pss_cons (ps_while PassesOwn.never (pt_cmpR op_ne (pv 5) (pv 3) (nomark _))
        (pss_cons (ps_expr (pe_bm PySem.F.plainAttrs_list PySem.F.slot_list_append PySem.F.type_list_append mt_append (pv 4) (pa_cons (pv 5) pa_nil)))
        (pss_one (ps_set (i := 5) sc__law_cycles.nd rfl (Or.inl rfl) (pe_ix ix_tup (pv 0) (pv 5) (fun _ _ => rfl))))))
      (pss_cons (ps_set (i := 2) sc__law_cycles.nd rfl (Or.inl rfl) (pe_op op_cat (pv 2) (pv 4)))
      (pss_one (ps_expr (pe_bm PySem.F.plainAttrs_list PySem.F.slot_list_append PySem.F.type_list_append mt_append (pv 1) (pa_cons (pe_callTy call_tuple_of (by rfl) S.b_tuple (by decide +kernel) (pa_cons (pv 4) pa_nil)) pa_nil)))))))
      pss_nil)))
  (pss_one (ps_ret (pv 1))))), ?_⟩
    walk_at "sx"
    refine ⟨Nat.zero_le _, fun f hf => ⟨Nat.zero_le _, fun kn0 hkn0 => ?_⟩⟩
    have e0 : Same H (upd (upd H f (.lst [])) kn0 (.lst [])) := (Same.new hf).trans (Same.new hkn0)
    have hfk : f ≠ kn0 := ne_of_none upd_same hkn0
    have hnl : (ns.map V.int).length = n := by rw [List.length_map, hm.1]
    refine for_it (fun R h => ?_) (itR (lo := 0) (n := n)) (fun i σ H' => CyI a ns f H n i σ H') ⟨[], [], kn0, [], _, _, _, e0, hf, by rw [upd_ne hfk, upd_same], .nil, Nat.zero_le _, (fun c hc => nomatch hc), hfk, upd_same, Nat.zero_le _, rfl⟩ (fun _ _ _ _ _ => True.intro) ?_ ?_
    · unfold iRng1
      walk_at "sx"
      refine ⟨_, .inr (SqT.of (e0 _ _ ha)), ?_⟩
      rw [hnl, Int.toNat_natCast]
      exact ⟨by omega, by omega, h⟩
    · rintro i x σ H1 hx ⟨rs, cs, kn, ks, o3, o4, o5, e1, hf0, hff, ht, hcl, hcs, hne, hks, hkl, rfl⟩
      have hin : i < n := by
        have := (List.getElem?_eq_some_iff.mp hx).1
        rw [List.length_map, List.length_range] at this
        exact this
      have hxi : x = V.int (i : Nat) := by
        rw [List.getElem?_map, List.getElem?_range hin] at hx
        have := (Option.some.inj hx).symm
        exact this.trans (show V.int (0 + ((i : Nat) : Int)) = _ by rw [Int.zero_add])
      subst hxi
      have hs : 0 ≤ ((i : Nat) : Int) ∧ ((i : Nat) : Int) < (n : Int) := by omega
      walk_at "sx"
      refine in_ints (SqL.of hks) ?_
      walk_at "sx"
      have hmul : i * n ≤ 24 * 24 := Nat.mul_le_mul (by omega) hn
      have hmul2 : i * n + n = (i + 1) * n := by rw [Nat.add_mul, Nat.one_mul]
      refine ⟨fun hni => ⟨by decide, fun r hr => ?_⟩, fun hyes => ⟨rs, cs, kn, ks, _, _, _, e1, hf0, hff, ht, by omega, hcs, hne, hks, by omega, rfl⟩⟩
      have hbs : ∀ {H4}, Same H H4 → SqT K H4 a (ns.map V.int) := fun e => SqT.of (e _ _ ha)
      have nxt : ∀ k, atI (ns.map V.int) (orb ns (i : Nat) k) = some (.int (orb ns (i : Nat) (k + 1))) := fun k => by
        have hk := orb_in hm hs k
        obtain ⟨q, hq⟩ := Int.eq_ofNat_of_zero_le hk.1
        rw [hq]
        refine atI_nat ?_
        have hl : q < ns.length := by rw [hm.1]; omega
        rw [List.getElem?_map, List.getElem?_eq_getElem hl]
        show _ = some (V.int (ns.getD (orb ns (i : Nat) k).toNat 0))
        rw [hq, List.getD_eq_getElem?_getD]
        show _ = some (V.int (ns[((q : Nat) : Int).toNat]?.getD 0))
        rw [Int.toNat_natCast, List.getElem?_eq_getElem hl]
        rfl
      have er : Same H (upd H1 r (.lst [V.int (i : Nat)])) := e1.trans (Same.new hr)
      refine ⟨_, _, _, _, rfl, rfl, hbs er, nxt 0, ?_⟩
      refine ⟨fun m σ H' => ∃ k, 1 ≤ k ∧ (∀ i2, 0 < i2 → i2 < k → orb ns (i : Nat) i2 ≠ (i : Nat)) ∧ m = n + 1 - k ∧ Same H1 H' ∧ H1 r = none ∧ H' r = some (.lst ((ringL ns (i : Nat) k).map V.int)) ∧ σ = [some (.ref a), some (.ref f), some (.ref kn), some (.int (i : Nat)), some (.ref r), some (.int (orb ns (i : Nat) k))], ⟨_, 1, by omega, fun i2 h1 h2 => by omega, rfl, Same.new hr, hr, upd_same, rfl⟩, ?_⟩
      rintro m σ H3 ⟨k1, hk1, ho, rfl, e3, hr0, hrr, rfl⟩
      have hkn := ring_few hm hs ho
      have e4 := e1.trans e3
      have hff3 := e3 _ _ hff
      have hks3 := e3 _ _ hks
      walk_at "sx"
      refine ⟨fun hne2 => ⟨_, fun _ _ h => h, Or.inl ⟨rfl, _, Or.inl (Or.inl hrr)⟩, _, hrr, sz_lt (by rw [List.length_map, ringL_len]; omega), ?_⟩, fun heq => ?_⟩
      · have e5 : ∀ o, Same H1 (upd H3 r o) := fun o => Same.mut e3 hr0
        refine ⟨_, _, _, _, rfl, rfl, hbs (e1.trans (e5 _)), nxt k1, ?_⟩
        have ho2 : ∀ i2, 0 < i2 → i2 < k1 + 1 → orb ns (i : Nat) i2 ≠ (i : Nat) := fun i2 h1 h2 => by
          by_cases z : i2 = k1
          · rw [z]
            exact hne2
          · exact ho i2 h1 (by omega)
        have := ring_few hm hs ho2
        refine ⟨n + 1 - (k1 + 1), by omega, k1 + 1, by omega, ho2, rfl, e5 _, hr0, ?_, rfl⟩
        rw [upd_same, ringL_succ, List.map_append]
        rfl
      · refine ⟨kn, r, _, _, rfl, rfl, hks3, hrr, by rw [List.length_map, List.length_map, ringL_len]; exact sz_of (by omega), fun kn2 hk2 => ?_⟩
        have hff4 : ∀ o, upd H3 kn2 o f = some (.lst rs) := fun o => Same.new hk2 _ _ hff3
        have hlr : rs.length = cs.length := Paired.length ht
        refine ⟨Or.inl ⟨rfl, _, Or.inl (Or.inl (hff4 _))⟩, _, .inl ⟨SqL.of (Same.new hk2 _ _ hrr), fun t ht2 => ?_⟩⟩
        have hff5 : ∀ o, upd (upd H3 kn2 (.lst (ks.map V.int ++ (ringL ns (i : Nat) k1).map V.int))) t o f = some (.lst rs) := fun o => Same.new ht2 _ _ (hff4 _)
        have hfk2 : f ≠ kn2 := ne_of_none hff3 hk2
        have hft : f ≠ t := ne_of_none (hff4 _) ht2
        refine ⟨rs, hff5 _, sz_lt (by omega), ⟨rs ++ [.ref t], cs ++ [ringL ns (i : Nat) k1], kn2, ks ++ ringL ns (i : Nat) k1, _, _, _, Same.mut ((e4.trans (Same.new hk2)).trans (Same.new ht2)) hf0, hf0, upd_same, ?_, by simp; omega, ?_, hfk2, ?_, ?_, rfl⟩⟩
        · exact PySem.Paired.snoc (Tups.mut (((ht.go e3).go (Same.new hk2)).go (Same.new ht2)) (hff5 _)) ⟨t, rfl, by rw [upd_ne (Ne.symm hft), upd_same]⟩
        · intro c hc
          rcases List.mem_append.mp hc with hc | hc
          · exact hcs c hc
          · rw [List.mem_singleton.mp hc]
            exact ⟨by rw [ringL_len]; omega, ringL_in hm hs⟩
        · rw [upd_ne (Ne.symm hfk2), Same.new ht2 _ _ (upd_same), List.map_append]
        · rw [List.length_append, ringL_len]
          omega
    · rintro σ H1 ⟨rs, cs, kn, ks, o3, o4, o5, e1, hf0, hff, ht, hcl, hcs, hne, hks, hkl, rfl⟩
      rw [List.length_map, List.length_range] at hcl
      walk_at "sx"
      exact k f rs cs _ e1 hf0 hff ht hcl hcs
end
end Tx

set_option maxRecDepth 100000
set_option maxHeartbeats 2000000
namespace Tx
open PySem PySem.Spec PyProof.Rows L2
local macro_rules | `(tactic| walk_at "sx") => `(tactic| simp only [cxK, tSeq, tIfS, tTest, tOp, tUn, tSl, tVar, tPart, tNoPart, tC, tRet, tRetN, tNext, tAsg, tPar, tPar3, tAug, tDrop, tB, tAnd, tOr, tNot, tAndV, tOrV, tNotV, tIf, tChain, tCons, tNil, tTup, tLst, tCall, tCB, tBM, tBM0, gName, gCons, gNil, gTup, rNe, rEq, rI0, rI, rU, rSlS, ipI, tRaiseErr, tMkErr, rAppend, tLstRg, tRg1, tRg2, L2.start, List.map_cons, List.map_nil, List.length_cons, List.length_nil, List.cons_append, List.nil_append, List.append_nil, List.getElem?_cons_zero, List.getElem?_cons_succ, List.set_cons_zero, List.set_cons_succ, Option.some.injEq, V.int.injEq, V.str.injEq, V.bl.injEq, V.ref.injEq, List.cons.injEq, exists_eq_left, exists_eq_left', exists_eq_right', exists_and_left, exists_and_right, true_and, and_true, Nat.reduceAdd, Nat.reduceSub, Nat.zero_add, List.replicate_zero, List.replicate_succ, ite_d, ite_nd, ite_b, scal, len_tx, tl_tx, eq_tx, app_tx, cut_nat, cut_to, cut_from, cut_t1, cut_t2, cut_t3, one_at, none_at, two_at, take1, take2, dr0, dr1, forall_eq', forall_eq, nc1, nc2, nc3, nca, Int.natCast_pos, Int.natCast_eq_zero, Bool.not_eq_true', Bool.not_eq_false', decide_eq_true_eq, decide_eq_false_iff_not, Bool.not_true, Bool.not_false, Decidable.not_not, WE, ex2, ex3, Nat.add_sub_add_left, Int.ofNat_lt, Int.natCast_inj, if_true, if_false, Bool.true_eq_false, Bool.false_eq_true, eq_self_iff_true, Nat.add_sub_cancel_left, Nat.add_sub_cancel, imp_false, not_false_eq_true, not_true_eq_false, forall_const, exists_and_self, reduceCtorEq, false_and, and_false, exists_false, List.cons_ne_nil, wipe, List.foldr_cons, List.foldr_nil, List.foldl_cons, List.foldl_nil, tYes, tCKw, tM1, gSub, tAugS, lit_e, lit_10, lit_32, lit_32_32, lit_32_43_32, lit_32_43_32_91_49_93, lit_32_45_32, lit_40, lit_40_41, lit_40_41_40_41, lit_40_48_32_49, lit_40_48_32_49_41, lit_40_48_32_49_41_40_50_32_49_41, lit_40_48_41, lit_41, lit_43, lit_44, lit_44_44, lit_44_51, lit_45, lit_45_48, lit_45_48_91_49_93, lit_48, lit_48_48, lit_48_49, lit_48_49_50_51_52_53_54_55_56_57, lit_49, lit_49_44_44_50, lit_50, lit_50_91_48_93_32_43_91_49_93, lit_57, lit_91, lit_91_48_49_93, lit_91_48_93, lit_91_50_93, lit_93, lit_107_105_110_100_115, lit_109_111_118_101, lit_112_97_114_115_101, lit_114_111_119, lit_116_111_108_100, lit_120])
local macro_rules | `(tactic| walk_at "sl") => `(tactic| simp only [lit_e, lit_10, lit_32, lit_32_32, lit_32_43_32, lit_32_43_32_91_49_93, lit_32_45_32, lit_40, lit_40_41, lit_40_41_40_41, lit_40_48_32_49, lit_40_48_32_49_41, lit_40_48_32_49_41_40_50_32_49_41, lit_40_48_41, lit_41, lit_43, lit_44, lit_44_44, lit_44_51, lit_45, lit_45_48, lit_45_48_91_49_93, lit_48, lit_48_48, lit_48_49, lit_48_49_50_51_52_53_54_55_56_57, lit_49, lit_49_44_44_50, lit_50, lit_50_91_48_93_32_43_91_49_93, lit_57, lit_91, lit_91_48_49_93, lit_91_48_93, lit_91_50_93, lit_93, lit_107_105_110_100_115, lit_109_111_118_101, lit_112_97_114_115_101, lit_114_111_119, lit_116_111_108_100, lit_120])
section
variable {w : World} {K : PySem.W.Frag} {mg : Str → Option Value} {base : Heap}
end
section
variable {P : Hp → Prop} {J : It} {xs : List V} {wi : TI} {σ : L2.St} {H : Hp}
/-- a list comprehension of which one wants that all items are so and so -/
theorem lc_rel {g : TG} {tt : TT} {te : TE} {vs : List Nat} {Q : VK} (Pr : V → Prop) (hi : ∀ R : It → Hp → Prop, R J H → wi σ H R) (hJ : ItOf P J xs) (hP : ∀ H', Same H H' → P H') (hl : xs.length ≤ 100000)
    (hs : ∀ (i : Nat) x H' (Ny : VK) (Nn : Hp → Prop), xs[i]? = some x → Same H H' → (∀ y H4, Same H' H4 → Pr y → Ny y H4) → (∀ H3, Same H' H3 → Nn H3) →
      g x (wipe σ vs) H' fun σ2 H2 => wipe σ2 vs = wipe σ vs ∧ tt σ2 H2 fun b H3 => if b = true then te σ2 H3 Ny else Nn H3)
    (q : ∀ D H' ys, H D = none → Same H H' → H' D = some (.lst ys) → ys.length ≤ xs.length → (∀ y ∈ ys, Pr y) → Q (.ref D) H') : tLc wi g tt te vs σ H Q := by
  refine hi _ fun D hD => ⟨fun i m H' => m = xs.length - i ∧ i ≤ xs.length ∧ Same H H' ∧ ∃ ys, H' D = some (.lst ys) ∧ ys.length ≤ i ∧ ∀ y ∈ ys, Pr y, ⟨xs.length, by simp, Nat.zero_le _, Same.new hD, [], upd_same, Nat.zero_le _, fun y hy => nomatch hy⟩, ?_⟩
  rintro i m H' ⟨rfl, hi, e, ys, hd, hyl, hy⟩
  by_cases hlt : i < xs.length
  · refine .inr ⟨hJ.go i H' hlt (hP H' e), fun H2 => Same H H2 ∧ ∃ ys, H2 D = some (.lst ys) ∧ ys.length ≤ i + 1 ∧ ∀ y ∈ ys, Pr y, fun H2 p' => ⟨xs.length - (i + 1), by omega, rfl, hlt, p'⟩, fun x H2 y => ?_⟩
    obtain ⟨e1, e2⟩ := hJ.yld i H' x H2 (hP H' e) hlt y
    subst e1
    refine hs i x _ (fun y H4 => ∃ acc, H4 D = some (.lst acc) ∧ acc.length < sizeLine ∧ (Same H (upd H4 D (.lst (acc ++ [y]))) ∧ ∃ ys, (upd H4 D (.lst (acc ++ [y]))) D = some (.lst ys) ∧ ys.length ≤ i + 1 ∧ ∀ y ∈ ys, Pr y)) _ e2 e (fun y H4 s1 h => ?_) (fun H3 s1 => ?_)
    · refine ⟨ys, s1 _ _ hd, sz_lt (by omega), Same.mut (e.trans s1) hD, _, upd_same, by rw [List.length_append, List.length_singleton]; omega, fun z hz => ?_⟩
      rcases List.mem_append.mp hz with hz | hz
      · exact hy z hz
      · rw [List.mem_singleton.mp hz]
        exact h
    · exact ⟨e.trans s1, ys, s1 _ _ hd, by omega, hy⟩
  · have ei : i = xs.length := by omega
    subst ei
    exact .inl ⟨hJ.stop _ (hP _ e), q D H' ys hD e hd hyl hy⟩
/-- the same where a bag is drawn from; the list has an item for each turn -/
theorem lc_bag {b : Addr} {g : TG} {te : TE} {vs : List Nat} {Q : VK} (Pr : V → Prop) (hi : ∀ R : It → Hp → Prop, R J H → wi σ H R) (hJ : ItOf P J xs) (hb : IsBag H b) (hP : ∀ H', Bg b H H' → P H') (hl : xs.length ≤ 100000)
    (hs : ∀ (i : Nat) x H' (Ny : VK), xs[i]? = some x → Bg b H H' → IsBag H' b → (∀ y H4, Bg b H' H4 → IsBag H4 b → Pr y → Ny y H4) →
      g x (wipe σ vs) H' fun σ2 H2 => wipe σ2 vs = wipe σ vs ∧ te σ2 H2 Ny)
    (q : ∀ D H' ys, H D = none → Bg b H H' → IsBag H' b → H' D = some (.lst ys) → ys.length = xs.length → (∀ y ∈ ys, Pr y) → Q (.ref D) H') : tLc wi g tYes te vs σ H Q := by
  refine hi _ fun D hD => ?_
  have hDb : D ≠ b := fun z => by
    obtain ⟨_, _, _, h⟩ := hb
    rw [← z, hD] at h
    cases h
  have bagD : ∀ {H' : Hp} {o : HO}, IsBag H' b → IsBag (upd H' D o) b := fun ⟨x, y, z, h⟩ => ⟨x, y, z, by rw [upd_ne (Ne.symm hDb)]; exact h⟩
  refine ⟨fun i m H' => m = xs.length - i ∧ i ≤ xs.length ∧ Bg b H H' ∧ IsBag H' b ∧ ∃ ys, H' D = some (.lst ys) ∧ ys.length = i ∧ ∀ y ∈ ys, Pr y, ⟨xs.length, by simp, Nat.zero_le _, Bg.same (Same.new hD), bagD hb, [], upd_same, rfl, fun y hy => nomatch hy⟩, ?_⟩
  rintro i m H' ⟨rfl, hi, e, hb', ys, hd, hyl, hy⟩
  by_cases hlt : i < xs.length
  · refine .inr ⟨hJ.go i H' hlt (hP H' e), fun H2 => Bg b H H2 ∧ IsBag H2 b ∧ ∃ ys, H2 D = some (.lst ys) ∧ ys.length = i + 1 ∧ ∀ y ∈ ys, Pr y, fun H2 p' => ⟨xs.length - (i + 1), by omega, rfl, hlt, p'⟩, fun x H2 y => ?_⟩
    obtain ⟨e1, e2⟩ := hJ.yld i H' x H2 (hP H' e) hlt y
    subst e1
    have h0 := hs i x _ (fun y H4 => ∃ acc, H4 D = some (.lst acc) ∧ acc.length < sizeLine ∧ (Bg b H (upd H4 D (.lst (acc ++ [y]))) ∧ IsBag (upd H4 D (.lst (acc ++ [y]))) b ∧ ∃ ys, (upd H4 D (.lst (acc ++ [y]))) D = some (.lst ys) ∧ ys.length = i + 1 ∧ ∀ y ∈ ys, Pr y)) e2 e hb' (fun y H4 s1 hb4 h => ?_)
    · simp only [tYes, if_true]
      exact h0
    · refine ⟨ys, s1 _ _ hDb hd, sz_lt (by omega), Bg.mut (e.trans s1) hD, bagD hb4, _, upd_same, by rw [List.length_append, List.length_singleton]; omega, fun z hz => ?_⟩
      rcases List.mem_append.mp hz with hz | hz
      · exact hy z hz
      · rw [List.mem_singleton.mp hz]
        exact h
  · have ei : i = xs.length := by omega
    subst ei
    exact .inl ⟨hJ.stop _ (hP _ e), q D H' ys hD e hb' hd hyl hy⟩
end
end Tx

set_option maxRecDepth 100000
set_option maxHeartbeats 2000000
namespace Tx
open PySem PySem.Spec PyProof.Rows L2
local macro_rules | `(tactic| walk_at "sx") => `(tactic| simp only [cxK, tSeq, tIfS, tTest, tOp, tUn, tSl, tVar, tPart, tNoPart, tC, tRet, tRetN, tNext, tAsg, tPar, tPar3, tAug, tDrop, tB, tAnd, tOr, tNot, tAndV, tOrV, tNotV, tIf, tChain, tCons, tNil, tTup, tLst, tCall, tCB, tBM, tBM0, gName, gCons, gNil, gTup, rNe, rEq, rI0, rI, rU, rSlS, ipI, tRaiseErr, tMkErr, rAppend, tLstRg, tRg1, tRg2, L2.start, List.map_cons, List.map_nil, List.length_cons, List.length_nil, List.cons_append, List.nil_append, List.append_nil, List.getElem?_cons_zero, List.getElem?_cons_succ, List.set_cons_zero, List.set_cons_succ, Option.some.injEq, V.int.injEq, V.str.injEq, V.bl.injEq, V.ref.injEq, List.cons.injEq, exists_eq_left, exists_eq_left', exists_eq_right', exists_and_left, exists_and_right, true_and, and_true, Nat.reduceAdd, Nat.reduceSub, Nat.zero_add, List.replicate_zero, List.replicate_succ, ite_d, ite_nd, ite_b, scal, len_tx, tl_tx, eq_tx, app_tx, cut_nat, cut_to, cut_from, cut_t1, cut_t2, cut_t3, one_at, none_at, two_at, take1, take2, dr0, dr1, forall_eq', forall_eq, nc1, nc2, nc3, nca, Int.natCast_pos, Int.natCast_eq_zero, Bool.not_eq_true', Bool.not_eq_false', decide_eq_true_eq, decide_eq_false_iff_not, Bool.not_true, Bool.not_false, Decidable.not_not, WE, ex2, ex3, Nat.add_sub_add_left, Int.ofNat_lt, Int.natCast_inj, if_true, if_false, Bool.true_eq_false, Bool.false_eq_true, eq_self_iff_true, Nat.add_sub_cancel_left, Nat.add_sub_cancel, imp_false, not_false_eq_true, not_true_eq_false, forall_const, exists_and_self, reduceCtorEq, false_and, and_false, exists_false, List.cons_ne_nil, wipe, List.foldr_cons, List.foldr_nil, List.foldl_cons, List.foldl_nil, tYes, tCKw, tM1, gSub, tAugS, lit_e, lit_10, lit_32, lit_32_32, lit_32_43_32, lit_32_43_32_91_49_93, lit_32_45_32, lit_40, lit_40_41, lit_40_41_40_41, lit_40_48_32_49, lit_40_48_32_49_41, lit_40_48_32_49_41_40_50_32_49_41, lit_40_48_41, lit_41, lit_43, lit_44, lit_44_44, lit_44_51, lit_45, lit_45_48, lit_45_48_91_49_93, lit_48, lit_48_48, lit_48_49, lit_48_49_50_51_52_53_54_55_56_57, lit_49, lit_49_44_44_50, lit_50, lit_50_91_48_93_32_43_91_49_93, lit_57, lit_91, lit_91_48_49_93, lit_91_48_93, lit_91_50_93, lit_93, lit_107_105_110_100_115, lit_109_111_118_101, lit_112_97_114_115_101, lit_114_111_119, lit_116_111_108_100, lit_120])
local macro_rules | `(tactic| walk_at "sl") => `(tactic| simp only [lit_e, lit_10, lit_32, lit_32_32, lit_32_43_32, lit_32_43_32_91_49_93, lit_32_45_32, lit_40, lit_40_41, lit_40_41_40_41, lit_40_48_32_49, lit_40_48_32_49_41, lit_40_48_32_49_41_40_50_32_49_41, lit_40_48_41, lit_41, lit_43, lit_44, lit_44_44, lit_44_51, lit_45, lit_45_48, lit_45_48_91_49_93, lit_48, lit_48_48, lit_48_49, lit_48_49_50_51_52_53_54_55_56_57, lit_49, lit_49_44_44_50, lit_50, lit_50_91_48_93_32_43_91_49_93, lit_57, lit_91, lit_91_48_49_93, lit_91_48_93, lit_91_50_93, lit_93, lit_107_105_110_100_115, lit_109_111_118_101, lit_112_97_114_115_101, lit_114_111_119, lit_116_111_108_100, lit_120])
section
variable {w : World} {K : PySem.W.Frag} {mg : Str → Option Value} {base : Heap}
theorem tx_all (z : Str) : V.str z = tx z.cps.toList := by
  show V.str z = V.str ⟨z.cps.toList.toArray⟩
  rw [Array.toArray_toList]
theorem len_all (z : Str) : z.cps.toList.length = z.length := rfl
def rAddS : R2 := fun x y H Q => ∃ i j, x = .str i ∧ y = .str j ∧ i.length + j.length ≤ sizeLine ∧ Q (.str (i ++ j)) H
def rLen (K : PySem.W.Frag) : List V → Hp → VK → Prop := fun xs H Q => ∃ p ys, xs = [.ref p] ∧ (SqL K H p ys ∨ SqT K H p ys) ∧ Q (.int ys.length) H
def rStrI : List V → Hp → VK → Prop := fun xs H Q => ∃ i, xs = [.int i] ∧ i.natAbs.log2 < 1920 ∧ Q (.str (toString i)) H
def rJoin (K : PySem.W.Frag) : V → List V → Hp → VK → Prop := fun x xs H Q => ∃ a p, ∃ ys : List Str, x = .str a ∧ xs = [.ref p] ∧ (SqL K H p (ys.map V.str) ∨ SqT K H p (ys.map V.str)) ∧ (ys.map (·.length)).sum + ys.length * a.length ≤ 16777216 ∧ Q (.str (Txt.join a ys)) H
theorem strs_of {B : Nat} : ∀ {ys : List V}, (∀ y ∈ ys, ∃ s : Str, y = .str s ∧ s.length ≤ B) → ∃ us : List Str, ys = us.map V.str ∧ ∀ u ∈ us, u.length ≤ B
  | [], _ => ⟨[], rfl, fun u hu => nomatch hu⟩
  | y :: r, h => by
    obtain ⟨s, rfl, hs⟩ := h y List.mem_cons_self
    obtain ⟨us, e, hu⟩ := strs_of (fun z hz => h z (List.mem_cons_of_mem _ hz))
    refine ⟨s :: us, by rw [e]; rfl, fun u hm => ?_⟩
    rcases List.mem_cons.mp hm with rfl | hm
    · exact hs
    · exact hu u hm
theorem tLc_eq {wi : TI} {g : TG} {tt : TT} {te : TE} {vs : List Nat} {σ : L2.St} {H : Hp} {Q : VK} : tLc wi g tt te vs σ H Q = wi σ H (fun J H1 => tLc (fun _ H R => R J H) g tt te vs σ H1 Q) := rfl
def sp__law_move_text : Sp := fun vs H Q _ => ∃ (a : Addr) (ns : List Int) (n : Nat), vs = [.ref a] ∧ H a = some (.tup (ns.map V.int)) ∧ IsMove n ns ∧ n ≤ 12 ∧
  ∀ (l : List Nat) H', Same H H' → l.length ≤ 1000 → Q (tx l) H'
theorem ok__law_move_text (S : Pg K mg) : FnOk prog w K mg base CX0 2 S._law_move_text.f S._law_move_text.fd ["move"] sp__law_move_text := by
  refine S._law_move_text.F.ok sc__law_move_text (fun vs H Q E h => ?_) (fun cdv A outer s H vs Q E hr h => ?_)
  · obtain ⟨a, ns, n, rfl, _⟩ := h
    rfl
  · obtain ⟨a, ns, n, rfl, ha, hm, hn, k⟩ := h
    refine ⟨_, (pss_cons (ps_setLc (tt := tTest (tOp (rI0 fun i j => V.bl (decide (j < i))) (tCB (rLen K) (tCons (tVar 2) tNil)) (tC (V.int 1)))) (i := 1) (own := [("ring", 2)]) rfl sc__law_move_text.nd rfl rfl (sw_true rfl rfl rfl (by decide +kernel)) (pi_list (pe_call (ok__law_cycles S) (hr.mono (by decide)) rfl S._law_cycles.m S._law_cycles.F.kp S._law_cycles.b .nil pass0 (pa_cons (pv 0) pa_nil))) (blkOk_by (N := ["move", "rings", "ring", "place"]) (sc := defScope (top 44)) (by decide +kernel)) (fun _ _ _ _ _ => (pg_name (i := 2) sc__law_move_text.nd rfl (Or.inl rfl))) (fun _ _ _ _ _ => (pts_one (pt_cmpR op_gt (pe_callB call_len_seq (by rfl) S.b_len (by decide +kernel) (pa_cons (pv 2) pa_nil)) pe_int (nomark _)))) (fun _ _ _ _ _ => (pv 2)))
  (pss_one (ps_ret (pe_ifExp (pt_cmpR (op_neD hr.units) (pv 1) (pe_lst pa_nil) (nomark _)) (pe_join pe_str (pe_lc (te := tOp rAddS (tOp rAddS (tC (V.str "(")) (tM1 (rJoin K) (tC (V.str " ")) (tLc (iTup K (tVar 2)) (gName 3) tYes (tCB rStrI (tCons (tVar 3) tNil)) [3]))) (tC (V.str ")"))) (own := [("ring", 2)]) rfl sc__law_move_text.nd (pi_list (pv 1)) (blkOk_by (N := ["move", "rings", "ring", "place"]) (sc := defScope (top 44)) (by decide +kernel)) (fun _ _ _ _ _ => (pg_name (i := 2) sc__law_move_text.nd rfl (Or.inl rfl))) (fun _ _ _ _ _ => pts_nil) (fun _ _ _ _ _ => (pe_op op_add_str (pe_op op_add_str pe_str (pe_join pe_str (pe_lc (own := [("place", 3)]) rfl sc__law_move_text.nd (pi_tup (pv 2)) (blkOk_by (by rfl)) (fun _ _ _ _ _ => (pg_name (i := 3) sc__law_move_text.nd rfl (Or.inl rfl))) (fun _ _ _ _ _ => pts_nil) (fun _ _ _ _ _ => (pe_callTy call_str_int (by rfl) S.b_str (by decide +kernel) (pa_cons (pv 3) pa_nil)))))) pe_str)))) pe_str)))), ?_⟩
    walk_at "sx"
    rw [tLc_eq]
    refine ⟨_, rfl, a, ns, n, rfl, ha, hm, by omega, fun b rs cs H1 e1 hb0 hb ht hcl hcs => ⟨b, rfl, ⟨rs, SqL.of hb⟩, ?_⟩⟩
    have hlr : rs.length = cs.length := Paired.length ht
    have item : ∀ {x : V}, x ∈ rs → ∃ (q : Addr) (c : List Int), x = .ref q ∧ H1 q = some (.tup (c.map V.int)) ∧ c.length ≤ n ∧ ∀ y ∈ c, 0 ≤ y ∧ y < (n : Int) := fun {x} hx => by
      obtain ⟨i, hi, hxi⟩ := List.getElem_of_mem hx
      obtain ⟨c, hc, q, rfl, hq⟩ := pget ht (show rs[i]? = some x by rw [List.getElem?_eq_getElem hi, hxi])
      have hcm := List.mem_of_getElem? hc
      exact ⟨q, c, rfl, hq, (hcs c hcm).1, (hcs c hcm).2⟩
    refine lc_rel (xs := rs) (P := fun H' => SqL K H' b rs) (J := Itl K b) (fun y => y ∈ rs) (fun R h => h) itL (fun H' e => SqL.of (e _ _ hb)) (by omega) (fun i x H' Ny Nn hx e hy hn => ?_) (fun D H2 ys hD e2 hDD hyl hys => ?_)
    · obtain ⟨q, c, rfl, hq, _⟩ := item (List.mem_of_getElem? hx)
      walk_at "sx"
      refine ⟨q, _, rfl, .inr (SqT.of (e _ _ hq)), ?_⟩
      walk_at "sx"
      exact ⟨fun _ => hy _ _ (Same.refl _) (List.mem_of_getElem? hx), fun _ => hn _ (Same.refl _)⟩
    refine ⟨Nat.zero_le _, fun z hz => ?_⟩
    have e3 := e2.trans (Same.new (o := .lst []) hz)
    have hD3 : upd H2 z (.lst []) D = some (.lst ys) := Same.new hz _ _ hDD
    have hz3 : upd H2 z (.lst []) z = some (.lst []) := upd_same
    generalize upd H2 z (.lst []) = H3 at e3 hD3 hz3
    obtain ⟨ds, hds, hlay, hdep⟩ : ∃ ds, DpAll K H3 ys ds ∧ PyData.canLayAll0 ds = true ∧ PyData.depthAll ds ≤ 2 := by
      clear hDD hyl hD3
      induction ys with
      | nil => exact ⟨[], .nil, rfl, Nat.zero_le _⟩
      | cons y r ih =>
        obtain ⟨ds, h1, h2, h3⟩ := ih fun y hy => hys y (List.mem_cons_of_mem _ hy)
        obtain ⟨q, c, rfl, hq, _⟩ := item (hys y List.mem_cons_self)
        refine ⟨.tuple (c.map PyData.int) :: ds, .cons (.tup (SqT.of (e3 _ _ hq)) (dp_ints c)) h1, ?_, ?_⟩
        · show (PyData.canLayAll0 (c.map PyData.int) && PyData.canLayAll0 ds) = true
          rw [lay_ints, h2]
          rfl
        · have := depth_ints c
          show max (PyData.depthAll (c.map PyData.int) + 1) (PyData.depthAll ds) ≤ 2
          omega
    refine ⟨.list ds, .list [], .lst (SqL.of hD3) hds, .lst (SqL.of hz3) .nil, ?_, by decide, _, rfl, fun _ => ?_, fun _ => ?_⟩
    · show (PyData.canLayAll0 ds && decide (PyData.depthAll ds + 1 ≤ 64)) = true
      rw [hlay, decide_eq_true (by omega)]
      rfl
    · refine ⟨⟨_, rfl⟩, lc_rel (xs := ys) (P := fun H' => SqL K H' D ys) (fun y => ∃ s : Str, y = .str s ∧ s.length ≤ 40) (fun R h => ⟨_, rfl, _, rfl, ⟨_, SqL.of hD3⟩, h⟩) itL (fun H' e => SqL.of (e _ _ hD3)) (by omega) (fun i x H' Ny Nn hx e hy hn => ?_) (fun D2 H4 zs hD2 e4 hDD2 hzl hzs => ?_)⟩
      · obtain ⟨q, c, rfl, hq, hcl2, hcr⟩ := item (hys x (List.mem_of_getElem? hx))
        have hq2 := e _ _ (e3 _ _ hq)
        walk_at "sx"
        refine ⟨⟨_, rfl⟩, lc_rel (xs := c.map V.int) (P := fun H' => SqT K H' q (c.map V.int)) (fun y => ∃ s : Str, y = .str s ∧ s.length ≤ 2) (fun R h => ⟨_, rfl, _, rfl, ⟨_, SqT.of hq2⟩, h⟩) itT (fun H' e => SqT.of (e _ _ hq2)) (by rw [List.length_map]; omega) (fun i2 x2 H5 Ny2 Nn2 hx2 e5 hy2 hn2 => ?_) (fun D3 H6 ws hD3 e6 hDD3 hwl hws => ?_)⟩
        · rw [List.getElem?_map] at hx2
          obtain ⟨v, hv, rfl⟩ := Option.map_eq_some_iff.mp hx2
          have hvr := hcr v (List.mem_of_getElem? hv)
          walk_at "sx"
          refine ⟨v, rfl, ?_, hy2 _ _ (Same.refl _) ⟨_, rfl, PyProof.Rows.toString_length_le hvr.1 (by decide) (by omega)⟩⟩
          exact Nat.lt_trans (PySem.Flt.log2_lt_of (k := 64) (by decide) (show v.natAbs < 2 ^ 64 by omega)) (by decide)
        · obtain ⟨us, rfl, hus⟩ := strs_of hws
          rw [List.length_map, List.length_map] at hwl
          have hs1 := sum_le (fun a : Str => a.length) 2 us hus
          have hj := join_le (y := ⟨#[32]⟩) (n := 12) hus (by omega)
          have h32 : (⟨#[32]⟩ : Str).length = 1 := rfl
          rw [h32] at hj
          refine ⟨_, D3, us, rfl, rfl, .inl (SqL.of hDD3), ?_, ?_⟩
          · rw [h32]
            omega
          · have h40 : (⟨#[40]⟩ : Str).length = 1 := rfl
            have h41 : (⟨#[41]⟩ : Str).length = 1 := rfl
            refine ⟨⟨#[40]⟩, _, rfl, rfl, ?_, _, ⟨#[41]⟩, rfl, rfl, ?_, hy _ _ e6 ⟨_, rfl, ?_⟩⟩
            · rw [h40]
              exact sz_of (by omega)
            · rw [app_len, h40, h41]
              exact sz_of (by omega)
            · rw [app_len, app_len, h40, h41]
              omega
      · obtain ⟨us, rfl, hus⟩ := strs_of hzs
        rw [List.length_map] at hzl
        have hs1 := sum_le (fun a : Str => a.length) 40 us hus
        have hj := join_le (y := ⟨#[]⟩) (n := 12) hus (by omega)
        have h0 : (⟨#[]⟩ : Str).length = 0 := rfl
        rw [h0] at hj
        refine ⟨D2, rfl, us, .inl (SqL.of hDD2), by omega, ?_⟩
        rw [tx_all]
        refine k _ _ ((e1.trans e3).trans e4) ?_
        rw [len_all]
        omega
    · exact k [40, 41] H3 (e1.trans e3) (by decide)
def sp__law_near_text : Sp := fun vs H Q _ => ∃ (g b : Addr) (l : List Nat) (sg : List (List Nat)), vs = [.ref g, tx l, .ref b] ∧ IsBag H g ∧ b ≠ g ∧ H b = some (.lst (sg.map tx)) ∧ sg ≠ [] ∧ sg.length ≤ 1000 ∧ l.length ≤ 90000 ∧ (∀ s ∈ sg, s.length ≤ 61) ∧
  ∀ (l' : List Nat) H', Bg g H H' → IsBag H' g → l'.length ≤ l.length + 61 → Q (tx l') H'
theorem ok__law_near_text (S : Pg K mg) : FnOk prog w K mg base CX0 3 S._law_near_text.f S._law_near_text.fd ["bag", "text", "signs"] sp__law_near_text := by
  refine S._law_near_text.F.ok sc__law_near_text (fun vs H Q E h => ?_) (fun cdv A outer s H vs Q E hr h => ?_)
  · obtain ⟨g, b, l, sg, rfl, _⟩ := h
    rfl
  · obtain ⟨g, b, l, sg, rfl, ⟨b0, b1, b2, hg⟩, hbg, hb, hne, hsl, hl, hs, k⟩ := h
    refine ⟨_, (pss_cons (ps_par (i := 3) (j := 4) (by rfl) sc__law_near_text.nd rfl rfl (by decide) rfl rfl (pa_cons (pe_call (ok__law_grab S) (hr.mono (by decide)) rfl S._law_grab.m S._law_grab.F.kp S._law_grab.b .nil pass0 (pa_cons (pv 0) (pa_cons pe_int pa_nil))) (pa_cons (pe_call (ok__law_grab S) (hr.mono (by decide)) rfl S._law_grab.m S._law_grab.F.kp S._law_grab.b .nil pass0 (pa_cons (pv 0) (pa_cons (pe_op op_add (pe_callB call_len_str (by rfl) S.b_len (by decide +kernel) (pa_cons (pv 1) pa_nil)) pe_int) pa_nil))) pa_nil)) (by rfl))
  (pss_cons (ps_set (i := 5) sc__law_near_text.nd rfl (Or.inl rfl) (pe_call (ok__law_one_of S) (hr.mono (by decide)) rfl S._law_one_of.m S._law_one_of.F.kp S._law_one_of.b .nil pass0 (pa_cons (pv 0) (pa_cons (pv 2) pa_nil))))
  (pss_cons (ps_if (pt_cmpR op_eq (pv 3) pe_int (nomark _))
    (pss_one (ps_ret (pe_op op_add_str (pe_slice sl_str (pv 1) po_none (po_some (pv 4))) (pe_slice sl_str (pv 1) (po_some (pe_op op_add (pv 4) pe_int)) po_none))))
    pss_nil)
  (pss_cons (ps_if (pt_cmpR op_eq (pv 3) pe_int (nomark _))
    (pss_one (ps_ret (pe_op op_add_str (pe_op op_add_str (pe_slice sl_str (pv 1) po_none (po_some (pv 4))) (pv 5)) (pe_slice sl_str (pv 1) (po_some (pv 4)) po_none))))
    pss_nil)
  (pss_cons (ps_if (pt_cmpR op_eq (pv 3) pe_int (nomark _))
    (pss_one (ps_ret (pe_op op_add_str (pe_op op_add_str (pe_slice sl_str (pv 1) po_none (po_some (pv 4))) (pv 5)) (pe_slice sl_str (pv 1) (po_some (pe_op op_add (pv 4) pe_int)) po_none))))
    pss_nil)
  (pss_cons (ps_if (pt_cmpR op_eq (pv 3) pe_int (nomark _))
    (pss_one (ps_ret (pe_slice sl_str (pv 1) po_none (po_some (pv 4)))))
    pss_nil)
  (pss_cons (ps_if (pt_cmpR op_eq (pv 3) pe_int (nomark _))
    (pss_one (ps_ret (pe_op op_add_str (pe_op op_add_str (pe_slice sl_str (pv 1) po_none (po_some (pv 4))) (pe_slice sl_str (pv 1) (po_some (pv 4)) (po_some (pe_op op_add (pv 4) pe_int)))) (pe_slice sl_str (pv 1) (po_some (pv 4)) po_none))))
    pss_nil)
  (pss_cons (ps_if (pt_cmpR op_eq (pv 3) pe_int (nomark _))
    (pss_one (ps_ret (pe_op op_add_str (pe_op op_add_str (pe_op op_add_str (pe_slice sl_str (pv 1) po_none (po_some (pv 4))) (pe_slice sl_str (pv 1) (po_some (pe_op op_add (pv 4) pe_int)) (po_some (pe_op op_add (pv 4) pe_int)))) (pe_slice sl_str (pv 1) (po_some (pv 4)) (po_some (pe_op op_add (pv 4) pe_int)))) (pe_slice sl_str (pv 1) (po_some (pe_op op_add (pv 4) pe_int)) po_none))))
    pss_nil)
  (pss_one (ps_ret (pv 1))))))))))), ?_⟩
    walk_at "sx"
    refine ⟨g, b0, b1, b2, 7, rfl, hg, by decide, by decide, fun r x1 y1 z1 h0 h1 => ⟨sz_of (by omega), g, x1, y1, z1, _, rfl, upd_same, by omega, by omega, fun r2 x2 y2 z2 h2 h3 => ⟨g, b, x2, y2, z2, sg.map tx, rfl, upd_same, hbg, ?_, ?_, ?_, fun v hv x3 y3 z3 => ?_⟩⟩⟩
    · rw [upd_ne hbg, upd_ne hbg]
      exact hb
    · intro z
      exact hne (List.map_eq_nil_iff.mp z)
    · rw [List.length_map]
      omega
    obtain ⟨w1, rfl⟩ := Int.eq_ofNat_of_zero_le h0
    obtain ⟨i, rfl⟩ := Int.eq_ofNat_of_zero_le h2
    obtain ⟨s1, hs1, rfl⟩ := List.mem_map.mp hv
    have hsl1 := hs s1 hs1
    have hi : i ≤ l.length := by omega
    have e : Bg g H (upd (upd (upd H g (.lst [.int x1, .int y1, .int z1])) g (.lst [.int x2, .int y2, .int z2])) g (.lst [.int x3, .int y3, .int z3])) := (Bg.put.trans Bg.put).trans Bg.put
    have hbag : IsBag (upd (upd (upd H g (.lst [.int x1, .int y1, .int z1])) g (.lst [.int x2, .int y2, .int z2])) g (.lst [.int x3, .int y3, .int z3])) g := ⟨_, _, _, upd_same⟩
    generalize upd (upd (upd H g (.lst [.int x1, .int y1, .int z1])) g (.lst [.int x2, .int y2, .int z2])) g (.lst [.int x3, .int y3, .int z3]) = H4 at e hbag
    have fin : ∀ l' : List Nat, l'.length ≤ l.length + 61 → Q (tx l') H4 := fun l' hl' => k l' H4 e hbag hl'
    walk_at "sx"
    repeat' first
      | apply And.intro
      | intro _
      | exact fin _ (by (try simp only [List.length_append, List.length_take, List.length_drop]); omega)
      | exact sz_of (by (try simp only [List.length_append, List.length_take, List.length_drop]); omega)
theorem ex_tx {z : Str} {B : Nat} (h : z.length ≤ B) : ∃ x : List Nat, x.length ≤ B ∧ z = ⟨x.toArray⟩ := ⟨z.cps.toList, h, by rw [Array.toArray_toList]⟩
theorem len1 {c : Nat} : (⟨#[c]⟩ : Str).length = 1 := rfl
def sp__law_kinds_text : Sp := fun vs H Q _ => ∃ (a : Addr) (ns : List Int), vs = [.ref a] ∧ H a = some (.tup (ns.map V.int)) ∧ ns.length ≤ 7 ∧ (∀ n ∈ ns, isI n = true) ∧
  ∀ (l : List Nat) H', Same H H' → l.length ≤ 1000 → Q (tx l) H'
theorem ok__law_kinds_text (S : Pg K mg) : FnOk prog w K mg base CX0 1 S._law_kinds_text.f S._law_kinds_text.fd ["kinds"] sp__law_kinds_text := by
  refine S._law_kinds_text.F.ok sc__law_kinds_text (fun vs H Q E h => ?_) (fun cdv A outer s H vs Q E hr h => ?_)
  · obtain ⟨a, ns, rfl, _⟩ := h
    rfl
  · obtain ⟨a, ns, rfl, ha, hl, hi, k⟩ := h
    refine ⟨_, (pss_cons (ps_set (i := 1) sc__law_kinds_text.nd rfl (Or.inl rfl) pe_str)
  (pss_cons (ps_for PassesOwn.never rfl (pi_enumT (by rfl) S.b_enumerate (pa_cons (pv 0) pa_nil)) (pg_tup rfl (pgs_cons (pg_name (i := 2) sc__law_kinds_text.nd rfl (Or.inl rfl)) (pgs_cons (pg_name (i := 3) sc__law_kinds_text.nd rfl (Or.inl rfl)) pgs_nil)))
    (pss_one (ps_if (pt_cmpR op_ne (pv 3) pe_int (nomark _))
      (pss_cons (ps_set (i := 4) sc__law_kinds_text.nd rfl (Or.inl rfl) (pe_ifExp (pt_cmpR op_eq (pe_callB call_abs (by rfl) S.b_abs (by decide +kernel) (pa_cons (pv 3) pa_nil)) pe_int (nomark _)) pe_str (pe_callTy call_str_int (by rfl) S.b_str (by decide +kernel) (pa_cons (pe_callB call_abs (by rfl) S.b_abs (by decide +kernel) (pa_cons (pv 3) pa_nil)) pa_nil))))
      (pss_cons (ps_set (i := 5) sc__law_kinds_text.nd rfl (Or.inl rfl) (pe_ifExp (pt_cmpR op_lt (pv 3) pe_int (nomark _)) pe_str pe_str))
      (pss_cons (ps_if (pt_cmpR op_ne (pv 1) pe_str (nomark _))
        (pss_one (ps_set (i := 5) sc__law_kinds_text.nd rfl (Or.inl rfl) (pe_ifExp (pt_cmpR op_lt (pv 3) pe_int (nomark _)) pe_str pe_str)))
        pss_nil)
      (pss_one (ps_set (i := 1) sc__law_kinds_text.nd rfl (Or.inl rfl) (pe_op op_add_str (pe_op op_add_str (pe_op op_add_str (pe_op op_add_str (pe_op op_add_str (pv 1) (pv 5)) (pv 4)) pe_str) (pe_callTy call_str_int (by rfl) S.b_str (by decide +kernel) (pa_cons (pv 2) pa_nil))) pe_str))))))
      pss_nil)))
  (pss_one (ps_ret (pe_ifExp (pt_cmpR op_ne (pv 1) pe_str (nomark _)) (pv 1) pe_str))))), ?_⟩
    walk_at "sx"
    refine for_en (a := a) (xs := ns.map V.int) (fun R h => ⟨_, rfl, a, _, rfl, SqT.of ha, h⟩) (fun i σ H' => ∃ s o2 o3 o4 o5, Same H H' ∧ s.length ≤ 75 * i ∧ σ = [some (.ref a), some (tx s), o2, o3, o4, o5]) ⟨[], _, _, _, _, Same.refl _, Nat.le_refl _, rfl⟩ (fun i σ H' hi ⟨_, _, _, _, _, e, _⟩ => SqT.of (e _ _ ha)) ?_ ?_
    · rintro i x T σ H1 hx hT ⟨s1, o2, o3, o4, o5, e1, hs1, rfl⟩
      rw [List.getElem?_map] at hx
      obtain ⟨n, hn, rfl⟩ := Option.map_eq_some_iff.mp hx
      have hin : i < ns.length := (List.getElem?_eq_some_iff.mp hn).1
      have hnI := of_decide_eq_true (hi n (List.mem_of_getElem? hn))
      walk_at "sx"
      refine unp upd_same rfl ?_
      have e2 := e1.trans (Same.new (o := .tup [.int (i : Nat), .int n]) hT)
      generalize upd H1 T (.tup [.int (i : Nat), .int n]) = H2 at e2
      walk_at "sx"
      have hzi : (Str.ofString (toString ((i : Nat) : Int))).length ≤ 1 := PyProof.Rows.toString_length_le (by omega) (by decide) (by omega)
      have hza : (Str.ofString (toString (if n < 0 then -n else n))).length ≤ 60 := PyProof.Rows.toString_length_le (by split <;> omega) (by decide) (by split <;> omega)
      have hl1 : ((i : Nat) : Int).natAbs.log2 < 1920 := Nat.lt_trans (PySem.Flt.log2_lt_of (k := 64) (by decide) (show ((i : Nat) : Int).natAbs < 2 ^ 64 by omega)) (by decide)
      have hl2 : (if n < 0 then -n else n).natAbs.log2 < 1920 := Nat.lt_trans (PySem.Flt.log2_lt_of (k := 200) (by decide) (show (if n < 0 then -n else n).natAbs < 2 ^ 200 by split <;> omega)) (by decide)
      generalize Str.ofString (toString ((i : Nat) : Int)) = zi at hzi ⊢
      generalize Str.ofString (toString (if n < 0 then -n else n)) = za at hza ⊢
      repeat' first
        | exact e2
        | apply And.intro
        | intro _
        | exact hl1
        | exact hl2
        | exact ex_tx (by (try simp only [app_len, len_tx, len1, List.length_append, List.length_cons, List.length_nil]); omega)
        | exact sz_of (by (try simp only [app_len, len_tx, len1, List.length_append, List.length_cons, List.length_nil]); omega)
        | omega
    · rintro σ H1 ⟨s1, o2, o3, o4, o5, e1, hs1, rfl⟩
      rw [List.length_map] at hs1
      walk_at "sx"
      refine ⟨fun _ => k _ _ e1 (by omega), fun _ => k [48] _ e1 (by decide)⟩
end
end Tx

set_option maxRecDepth 100000
set_option maxHeartbeats 2000000
namespace Tx
open PySem PySem.Spec PyProof.Rows L2
local macro_rules | `(tactic| walk_at "sx") => `(tactic| simp only [cxK, tSeq, tIfS, tTest, tOp, tUn, tSl, tVar, tPart, tNoPart, tC, tRet, tRetN, tNext, tAsg, tPar, tPar3, tAug, tDrop, tB, tAnd, tOr, tNot, tAndV, tOrV, tNotV, tIf, tChain, tCons, tNil, tTup, tLst, tCall, tCB, tBM, tBM0, gName, gCons, gNil, gTup, rNe, rEq, rI0, rI, rU, rSlS, ipI, tRaiseErr, tMkErr, rAppend, tLstRg, tRg1, tRg2, L2.start, List.map_cons, List.map_nil, List.length_cons, List.length_nil, List.cons_append, List.nil_append, List.append_nil, List.getElem?_cons_zero, List.getElem?_cons_succ, List.set_cons_zero, List.set_cons_succ, Option.some.injEq, V.int.injEq, V.str.injEq, V.bl.injEq, V.ref.injEq, List.cons.injEq, exists_eq_left, exists_eq_left', exists_eq_right', exists_and_left, exists_and_right, true_and, and_true, Nat.reduceAdd, Nat.reduceSub, Nat.zero_add, List.replicate_zero, List.replicate_succ, ite_d, ite_nd, ite_b, scal, len_tx, tl_tx, eq_tx, app_tx, cut_nat, cut_to, cut_from, cut_t1, cut_t2, cut_t3, one_at, none_at, two_at, take1, take2, dr0, dr1, forall_eq', forall_eq, nc1, nc2, nc3, nca, Int.natCast_pos, Int.natCast_eq_zero, Bool.not_eq_true', Bool.not_eq_false', decide_eq_true_eq, decide_eq_false_iff_not, Bool.not_true, Bool.not_false, Decidable.not_not, WE, ex2, ex3, Nat.add_sub_add_left, Int.ofNat_lt, Int.natCast_inj, if_true, if_false, Bool.true_eq_false, Bool.false_eq_true, eq_self_iff_true, Nat.add_sub_cancel_left, Nat.add_sub_cancel, imp_false, not_false_eq_true, not_true_eq_false, forall_const, exists_and_self, reduceCtorEq, false_and, and_false, exists_false, List.cons_ne_nil, wipe, List.foldr_cons, List.foldr_nil, List.foldl_cons, List.foldl_nil, tYes, tCKw, tM1, gSub, tAugS, lit_e, lit_10, lit_32, lit_32_32, lit_32_43_32, lit_32_43_32_91_49_93, lit_32_45_32, lit_40, lit_40_41, lit_40_41_40_41, lit_40_48_32_49, lit_40_48_32_49_41, lit_40_48_32_49_41_40_50_32_49_41, lit_40_48_41, lit_41, lit_43, lit_44, lit_44_44, lit_44_51, lit_45, lit_45_48, lit_45_48_91_49_93, lit_48, lit_48_48, lit_48_49, lit_48_49_50_51_52_53_54_55_56_57, lit_49, lit_49_44_44_50, lit_50, lit_50_91_48_93_32_43_91_49_93, lit_57, lit_91, lit_91_48_49_93, lit_91_48_93, lit_91_50_93, lit_93, lit_107_105_110_100_115, lit_109_111_118_101, lit_112_97_114_115_101, lit_114_111_119, lit_116_111_108_100, lit_120])
local macro_rules | `(tactic| walk_at "sl") => `(tactic| simp only [lit_e, lit_10, lit_32, lit_32_32, lit_32_43_32, lit_32_43_32_91_49_93, lit_32_45_32, lit_40, lit_40_41, lit_40_41_40_41, lit_40_48_32_49, lit_40_48_32_49_41, lit_40_48_32_49_41_40_50_32_49_41, lit_40_48_41, lit_41, lit_43, lit_44, lit_44_44, lit_44_51, lit_45, lit_45_48, lit_45_48_91_49_93, lit_48, lit_48_48, lit_48_49, lit_48_49_50_51_52_53_54_55_56_57, lit_49, lit_49_44_44_50, lit_50, lit_50_91_48_93_32_43_91_49_93, lit_57, lit_91, lit_91_48_49_93, lit_91_48_93, lit_91_50_93, lit_93, lit_107_105_110_100_115, lit_109_111_118_101, lit_112_97_114_115_101, lit_114_111_119, lit_116_111_108_100, lit_120])
section
variable {w : World} {K : PySem.W.Frag} {mg : Str → Option Value} {base : Heap}
end
open LamX
/-- the clauses of _law_met -/
def metCls (PE IM IR IK : Addr) : List Cl :=
  [⟨.ref PE, fun a cls d => tRet (tTup (tCons (tC (V.str (Str.ofString "parse"))) (tCons (tXf a cls d PE "index" (tVar 1)) tNil))), some 1⟩,
   ⟨.ref IM, fun _ _ _ => tRet (tTup (tCons (tC (V.str (Str.ofString "move"))) tNil)), none⟩,
   ⟨.ref IR, fun _ _ _ => tRet (tTup (tCons (tC (V.str (Str.ofString "row"))) tNil)), none⟩,
   ⟨.ref IK, fun _ _ _ => tRet (tTup (tCons (tC (V.str (Str.ofString "kinds"))) tNil)), none⟩]
def metEnds (Q : VK) : Ends := { nx := fun _ H' => Q .non H', rt := Q }
def TTmet (K : PySem.W.Frag) (L : List Cl) : (XK → Hp → VK → Prop) → Hp → VK → Prop := fun tl H Q =>
  tl (fun cls d H' => ∀ σ' : L2.St, List.length σ' = 2 → wCls K (metEnds Q) L cls d σ' H') H (fun x H1 => 2 ≤ sizeLine ∧ ∀ p, H1 p = none → Q (.ref p) (upd H1 p (.tup [.str (Str.ofString "told"), x])))
theorem met_gives {X : Cx} {q : Str} {g : Addr} {cdg : Value} {PE IM IR IK : Addr} (h1 : X.mg "ParseError" = some (.ref PE)) (h2 : X.mg "InvalidMove" = some (.ref IM)) (h3 : X.mg "InvalidRow" = some (.ref IR)) (h4 : X.mg "InvalidKinds" = some (.ref IK))
    (T : XfC X.K PE) (hno : PySem.W.findIn X.K (.ref PE) "index" = some none) :
    GivesTo X ["call", "error"] "_law_met" (defScope (top 48)) g cdg (defBody (top 48)) "call" q (TTmet X.K (metCls PE IM IR IK)) := by
  intro f c' s H Q tl act hc h
  refine ⟨_, pss_one (ps_try_cls (X := (cxOf C8.CX0 X.prog X.w X.K X.mg X.base ["call", "error"] "_law_met" (defScope (top 48)) g cdg X.A X.stack s H C8.E0).nox) (l := metCls PE IM IR IK)
      (tb := fun W D σ H => ∃ Ech : XK, (∀ cls d σ' H', Ech cls d H' → W cls d σ' H') ∧ σ[0]? = some (some (.ref f)) ∧ H c' = some (CodeO c' q) ∧ tl Ech H fun x H1 => 2 ≤ sizeLine ∧ ∀ p, H1 p = none → D.rt (.ref p) (upd H1 p (.tup [.str (Str.ofString "told"), x])))
      rfl rfl sc__law_met.nd (fun W pn xe tk _ => ?_)
      (ClsOk.named ⟨rfl, by decide, .inl h1⟩ rfl rfl (fun a oe cls d pn hz hf => pss_one (ps_ret (pe_tup (pa_cons pe_str (pa_cons (pe_xf T hno hz hf (pv 1)) pa_nil)))))
        (ClsOk.bare ⟨rfl, by decide, .inl h2⟩ (fun a oe cls d pn hz hf => pss_one (ps_ret (pe_tup (pa_cons pe_str pa_nil))))
          (ClsOk.bare ⟨rfl, by decide, .inl h3⟩ (fun a oe cls d pn hz hf => pss_one (ps_ret (pe_tup (pa_cons pe_str pa_nil))))
            (ClsOk.bare ⟨rfl, by decide, .inl h4⟩ (fun a oe cls d pn hz hf => pss_one (ps_ret (pe_tup (pa_cons pe_str pa_nil)))) .nil))))), ?_⟩
  · refine ⟨fun pins s' σ H' D I h' => ?_⟩
    obtain ⟨Ech, hW, g1, g2, g3⟩ := h'
    exact (pss_one (ps_ret (pe_tup (pa_cons pe_str (pa_cons (act W pn xe Ech _ _ tk hW) pa_nil))))).run pins s' σ H' D I ⟨g1, g2, g3⟩
  · exact ⟨fun cls d H' => ∀ σ' : L2.St, List.length σ' = 2 → wCls X.K (metEnds Q) (metCls PE IM IR IK) cls d σ' H', fun cls d σ' H' hh hl => hh σ' hl, rfl, hc, h⟩
/-- what _law_met asks of the classes -/
structure MetOk {K : PySem.W.Frag} {mg : Str → Option Value} (S : Pg K mg) : Prop where
  e21 : PySem.W.exmOne K (.ref S.x_InvalidMove.C) (.ref S.c_ParseError) = some false
  e22 : PySem.W.exmOne K (.ref S.x_InvalidMove.C) (.ref S.x_InvalidMove.C) = some true
  e31 : PySem.W.exmOne K (.ref S.x_InvalidRow.C) (.ref S.c_ParseError) = some false
  e32 : PySem.W.exmOne K (.ref S.x_InvalidRow.C) (.ref S.x_InvalidMove.C) = some false
  e33 : PySem.W.exmOne K (.ref S.x_InvalidRow.C) (.ref S.x_InvalidRow.C) = some true
  e41 : PySem.W.exmOne K (.ref S.x_InvalidKinds.C) (.ref S.c_ParseError) = some false
  e42 : PySem.W.exmOne K (.ref S.x_InvalidKinds.C) (.ref S.x_InvalidMove.C) = some false
  e43 : PySem.W.exmOne K (.ref S.x_InvalidKinds.C) (.ref S.x_InvalidRow.C) = some false
  e44 : PySem.W.exmOne K (.ref S.x_InvalidKinds.C) (.ref S.x_InvalidKinds.C) = some true
def metL {K : PySem.W.Frag} {mg : Str → Option Value} (S : Pg K mg) : List Cl := metCls S.c_ParseError S.x_InvalidMove.C S.x_InvalidRow.C S.x_InvalidKinds.C
section
variable {K : PySem.W.Frag} {mg : Str → Option Value} {S : Pg K mg} {Q : VK} {H' : Hp}
theorem met_parse (M : MetOk S) {d : Addr} {i : Nat} (h : H' d = some (.xd [("index", .int (i : Nat))])) (q : ∀ p, H' p = none → Q (.ref p) (upd H' p (.tup [tx [112, 97, 114, 115, 101], .int (i : Nat)]))) :
    ∀ σ' : L2.St, List.length σ' = 2 → wCls K (metEnds Q) (metL S) (.ref S.c_ParseError) (some d) σ' H' := fun σ' hl => by
  refine ⟨true, S.e_ParseError.te, fun _ a ha => ?_, fun h => nomatch h⟩
  refine ⟨_, by rw [List.getElem?_set_self (by omega)], rfl, rfl, d, _, _, rfl, h, rfl, (show 2 ≤ sizeLine by decide), ?_⟩
  show ∀ p, H' p = none → Q (.ref p) (upd H' p (.tup [.str (Str.ofString "parse"), .int (i : Nat)]))
  rw [lit_112_97_114_115_101]
  exact q
theorem met_move (M : MetOk S) {d : Option Addr} (q : ∀ p, H' p = none → Q (.ref p) (upd H' p (.tup [tx [109, 111, 118, 101]]))) :
    ∀ σ' : L2.St, List.length σ' = 2 → wCls K (metEnds Q) (metL S) (.ref S.x_InvalidMove.C) d σ' H' := fun σ' hl => by
  have q' : ∀ p, H' p = none → Q (.ref p) (upd H' p (.tup [.str (Str.ofString "move")])) := by
    rw [lit_109_111_118_101]
    exact q
  exact ⟨false, M.e21, (fun h => nomatch h), fun _ => ⟨true, M.e22, fun _ a ha => ⟨by decide, q'⟩, fun h => nomatch h⟩⟩
theorem met_row (M : MetOk S) {d : Option Addr} (q : ∀ p, H' p = none → Q (.ref p) (upd H' p (.tup [tx [114, 111, 119]]))) :
    ∀ σ' : L2.St, List.length σ' = 2 → wCls K (metEnds Q) (metL S) (.ref S.x_InvalidRow.C) d σ' H' := fun σ' hl => by
  have q' : ∀ p, H' p = none → Q (.ref p) (upd H' p (.tup [.str (Str.ofString "row")])) := by
    rw [lit_114_111_119]
    exact q
  exact ⟨false, M.e31, (fun h => nomatch h), fun _ => ⟨false, M.e32, (fun h => nomatch h), fun _ => ⟨true, M.e33, fun _ a ha => ⟨by decide, q'⟩, fun h => nomatch h⟩⟩⟩
theorem met_kinds (M : MetOk S) {d : Option Addr} (q : ∀ p, H' p = none → Q (.ref p) (upd H' p (.tup [tx [107, 105, 110, 100, 115]]))) :
    ∀ σ' : L2.St, List.length σ' = 2 → wCls K (metEnds Q) (metL S) (.ref S.x_InvalidKinds.C) d σ' H' := fun σ' hl => by
  have q' : ∀ p, H' p = none → Q (.ref p) (upd H' p (.tup [.str (Str.ofString "kinds")])) := by
    rw [lit_107_105_110_100_115]
    exact q
  exact ⟨false, M.e41, (fun h => nomatch h), fun _ => ⟨false, M.e42, (fun h => nomatch h), fun _ => ⟨false, M.e43, (fun h => nomatch h), fun _ => ⟨true, M.e44, fun _ a ha => ⟨by decide, q'⟩, fun h => nomatch h⟩⟩⟩⟩
end
/-- _law_met(lambda: ..) -/
theorem pe_met {X : Cx} {T : List (Addr × Str)} {K : PySem.W.Frag} {mg : Str → Option Value} (eK : X.K = K) (eM : X.mg = mg) (S : Pg K mg) (M : MetOk S) {c P : Addr} {k : Nat} {params : Arguments} {body : Expr} {scope : Scope} {t : XK → TE} {p lpos pos : Pos} (hg : Gl X "_law_met")
    (TB : TabB X.base X.mg c P) (hcode : X.env.code = .ref c) (hmT : (P, X.env.qual ++ "<lambda>") ∈ T) (hu : ∀ p ∈ T, p.1 = P → p.2 = X.env.qual ++ "<lambda>") (hr : Room (k + 2) X.A) (L : LamS X.env.scope scope) (hdef : defaultsOf params X.env = ([], []))
    (hbind : ∀ (q : Str) (cl : List (Str × Addr)) (pm cv ctv : Value), bindArgs (PySem.W.kla_fn "<lambda>" q params body scope cl pm cv ctv) ⟨[], []⟩ = pure [])
    (hbody : ∀ (A : Around) (outer : List Env) (s : Shared) (H : Hp) (E : XK) (f c' : Addr), Room k (A.deeper (lamEnv X scope s.heap.objs.size f c')) → PE (lamCx X A outer s H E scope f c') body (t E)) :
    PE X (.Call (.Name "_law_met" p) [.Lambda params body scope lpos] [] pos) (tLam T (TTmet K (metL S)) t) := by
  subst eK eM
  obtain ⟨oc, od, kV, doc, pm, an, cdM, ct, osl, eM, lkM, cgM⟩ := S._law_met.F.ex
  have bM := S._law_met.b
  rw [eM] at lkM bM
  exact pe_lamcall hg S._law_met.m S._law_met.F.kp lkM cgM bM sc__law_met rfl (Or.inl rfl) (met_gives S.e_ParseError.gC S.x_InvalidMove.g S.x_InvalidRow.g S.x_InvalidKinds.g S.e_ParseError.xf S.e_ParseError.noN) TB hcode hmT hu hr L hdef hbind hbody
end Tx

set_option maxRecDepth 100000
set_option maxHeartbeats 2000000
namespace Tx
open PySem PySem.Spec PyProof.Rows L2
local macro_rules | `(tactic| walk_at "sx") => `(tactic| simp only [cxK, tSeq, tIfS, tTest, tOp, tUn, tSl, tVar, tPart, tNoPart, tC, tRet, tRetN, tNext, tAsg, tPar, tPar3, tAug, tDrop, tB, tAnd, tOr, tNot, tAndV, tOrV, tNotV, tIf, tChain, tCons, tNil, tTup, tLst, tCall, tCB, tBM, tBM0, gName, gCons, gNil, gTup, rNe, rEq, rI0, rI, rU, rSlS, ipI, tRaiseErr, tMkErr, rAppend, tLstRg, tRg1, tRg2, L2.start, List.map_cons, List.map_nil, List.length_cons, List.length_nil, List.cons_append, List.nil_append, List.append_nil, List.getElem?_cons_zero, List.getElem?_cons_succ, List.set_cons_zero, List.set_cons_succ, Option.some.injEq, V.int.injEq, V.str.injEq, V.bl.injEq, V.ref.injEq, List.cons.injEq, exists_eq_left, exists_eq_left', exists_eq_right', exists_and_left, exists_and_right, true_and, and_true, Nat.reduceAdd, Nat.reduceSub, Nat.zero_add, List.replicate_zero, List.replicate_succ, ite_d, ite_nd, ite_b, scal, len_tx, tl_tx, eq_tx, app_tx, cut_nat, cut_to, cut_from, cut_t1, cut_t2, cut_t3, one_at, none_at, two_at, take1, take2, dr0, dr1, forall_eq', forall_eq, nc1, nc2, nc3, nca, Int.natCast_pos, Int.natCast_eq_zero, Bool.not_eq_true', Bool.not_eq_false', decide_eq_true_eq, decide_eq_false_iff_not, Bool.not_true, Bool.not_false, Decidable.not_not, WE, ex2, ex3, Nat.add_sub_add_left, Int.ofNat_lt, Int.natCast_inj, if_true, if_false, Bool.true_eq_false, Bool.false_eq_true, eq_self_iff_true, Nat.add_sub_cancel_left, Nat.add_sub_cancel, imp_false, not_false_eq_true, not_true_eq_false, forall_const, exists_and_self, reduceCtorEq, false_and, and_false, exists_false, List.cons_ne_nil, wipe, List.foldr_cons, List.foldr_nil, List.foldl_cons, List.foldl_nil, tYes, tCKw, tM1, gSub, tAugS, lit_e, lit_10, lit_32, lit_32_32, lit_32_43_32, lit_32_43_32_91_49_93, lit_32_45_32, lit_40, lit_40_41, lit_40_41_40_41, lit_40_48_32_49, lit_40_48_32_49_41, lit_40_48_32_49_41_40_50_32_49_41, lit_40_48_41, lit_41, lit_43, lit_44, lit_44_44, lit_44_51, lit_45, lit_45_48, lit_45_48_91_49_93, lit_48, lit_48_48, lit_48_49, lit_48_49_50_51_52_53_54_55_56_57, lit_49, lit_49_44_44_50, lit_50, lit_50_91_48_93_32_43_91_49_93, lit_57, lit_91, lit_91_48_49_93, lit_91_48_93, lit_91_50_93, lit_93, lit_107_105_110_100_115, lit_109_111_118_101, lit_112_97_114_115_101, lit_114_111_119, lit_116_111_108_100, lit_120])
local macro_rules | `(tactic| walk_at "sl") => `(tactic| simp only [lit_e, lit_10, lit_32, lit_32_32, lit_32_43_32, lit_32_43_32_91_49_93, lit_32_45_32, lit_40, lit_40_41, lit_40_41_40_41, lit_40_48_32_49, lit_40_48_32_49_41, lit_40_48_32_49_41_40_50_32_49_41, lit_40_48_41, lit_41, lit_43, lit_44, lit_44_44, lit_44_51, lit_45, lit_45_48, lit_45_48_91_49_93, lit_48, lit_48_48, lit_48_49, lit_48_49_50_51_52_53_54_55_56_57, lit_49, lit_49_44_44_50, lit_50, lit_50_91_48_93_32_43_91_49_93, lit_57, lit_91, lit_91_48_49_93, lit_91_48_93, lit_91_50_93, lit_93, lit_107_105_110_100_115, lit_109_111_118_101, lit_112_97_114_115_101, lit_114_111_119, lit_116_111_108_100, lit_120])
section
variable {w : World} {K : PySem.W.Frag} {mg : Str → Option Value} {base : Heap}
end
open LamX
/-- a def whose code object is known -/
structure FunC (K : PySem.W.Frag) (x : Str) (st : Stmt) (f : Addr) (fd : FuncData) (c : Addr) : Prop where
  ex : ∃ (oc : Value) (od : Option Addr) (kV doc pm : Value) (an : Option Addr) (ct : Value) (osl : Array (Option Value)),
    fd = PySem.W.fnOf x x (defArgs st) (defBody st) (defScope st) .none kV doc pm an (.ref c) ct ∧ K.lookup f = some ⟨oc, od, .func fd, osl⟩ ∧ PySem.W.codeIn K (.ref c) x = true
theorem FunC.ok {P : Program} {w : World} {K : PySem.W.Frag} {mg : Str → Option Value} {base : Heap} {x : Str} {st : Stmt} {f c : Addr} {fd : FuncData} {N ps : List Str} {k : Nat} {sp : Sp} (F : FunC K x st f fd c) (S : FnScope N ps (defScope st)) (len : ∀ vs H Q E, sp vs H Q E → vs.length = ps.length)
    (hbody : ∀ (A : Around) (outer : List Env) (s : Shared) (H : Hp) (vs : List V) (Q : VK) (E : XK), Room k (A.deeper (envOfC x (defScope st) s.heap.objs.size f (.ref c))) → sp vs H Q E →
      ∃ t, PSs (cxOf CX0 P w K mg base N x (defScope st) f (.ref c) A outer s H E).nox (defBody st) t ∧ t { nx := fun _ H' => Q .non H', rt := Q } (start N vs) H) : FnOk P w K mg base CX0 (k + 1) f fd ps sp := by
  obtain ⟨oc, od, kV, doc, pm, an, ct, osl, rfl, lk, hcd⟩ := F.ex
  refine fn_of lk hcd S len fun A outer s H vs Q E hr hsp => ?_
  obtain ⟨t, h, q⟩ := hbody A outer s H vs Q E hr hsp
  exact ⟨t, h.nox, q⟩
/-- a def that makes lambdas: its code object and that one's table -/
structure LD (K : PySem.W.Frag) (mg : Str → Option Value) (base : Heap) (x : Str) (st : Stmt) (ps : List Str) where
  f : Addr
  fd : FuncData
  c : Addr
  P : Addr
  F : FunC K x st f fd c
  T : TabB base mg c P
  kp : PySem.W.keepIn K (.ref f) = true
  m : mg x = some (.ref f)
  b : Binds K fd ps []
structure Lg (K : PySem.W.Frag) (mg : Str → Option Value) (base : Heap) where
  moves : LD K mg base "_law_moves_right" (top 52) ["bag"]
  rows : LD K mg base "_law_rows_right" (top 54) ["bag"]
  kinds : LD K mg base "_law_kinds_right" (top 55) ["bag"]
  law : LD K mg base "law" (top 56) ["script"]
  d12 : moves.P ≠ rows.P
  d13 : moves.P ≠ kinds.P
  d14 : moves.P ≠ law.P
  d23 : rows.P ≠ kinds.P
  d24 : rows.P ≠ law.P
  d34 : kinds.P ≠ law.P
def lamQ (x : Str) (sc : Scope) : Str := (envOfC x sc 0 0 .none).qual ++ "<lambda>"
def Lg.tabs {K : PySem.W.Frag} {mg : Str → Option Value} {base : Heap} (L : Lg K mg base) : List (Addr × Str) :=
  [(L.moves.P, lamQ "_law_moves_right" (defScope (top 52))), (L.rows.P, lamQ "_law_rows_right" (defScope (top 54))), (L.kinds.P, lamQ "_law_kinds_right" (defScope (top 55))), (L.law.P, lamQ "law" (defScope (top 56)))]
section
variable {K : PySem.W.Frag} {mg : Str → Option Value} {base : Heap}
theorem Lg.u1 (L : Lg K mg base) : ∀ p ∈ L.tabs, p.1 = L.moves.P → p.2 = lamQ "_law_moves_right" (defScope (top 52)) := by
  intro p hp e
  simp only [Lg.tabs, List.mem_cons, List.not_mem_nil, or_false] at hp
  rcases hp with rfl | rfl | rfl | rfl
  · rfl
  · exact absurd e.symm L.d12
  · exact absurd e.symm L.d13
  · exact absurd e.symm L.d14
theorem Lg.u2 (L : Lg K mg base) : ∀ p ∈ L.tabs, p.1 = L.rows.P → p.2 = lamQ "_law_rows_right" (defScope (top 54)) := by
  intro p hp e
  simp only [Lg.tabs, List.mem_cons, List.not_mem_nil, or_false] at hp
  rcases hp with rfl | rfl | rfl | rfl
  · exact absurd e L.d12
  · rfl
  · exact absurd e.symm L.d23
  · exact absurd e.symm L.d24
theorem Lg.u3 (L : Lg K mg base) : ∀ p ∈ L.tabs, p.1 = L.kinds.P → p.2 = lamQ "_law_kinds_right" (defScope (top 55)) := by
  intro p hp e
  simp only [Lg.tabs, List.mem_cons, List.not_mem_nil, or_false] at hp
  rcases hp with rfl | rfl | rfl | rfl
  · exact absurd e L.d13
  · exact absurd e L.d23
  · rfl
  · exact absurd e.symm L.d34
theorem Lg.u4 (L : Lg K mg base) : ∀ p ∈ L.tabs, p.1 = L.law.P → p.2 = lamQ "law" (defScope (top 56)) := by
  intro p hp e
  simp only [Lg.tabs, List.mem_cons, List.not_mem_nil, or_false] at hp
  rcases hp with rfl | rfl | rfl | rfl
  · exact absurd e L.d14
  · exact absurd e L.d24
  · exact absurd e L.d34
  · rfl
theorem Lg.i1 (L : Lg K mg base) : (L.moves.P, lamQ "_law_moves_right" (defScope (top 52))) ∈ L.tabs := by simp [Lg.tabs]
theorem Lg.i2 (L : Lg K mg base) : (L.rows.P, lamQ "_law_rows_right" (defScope (top 54))) ∈ L.tabs := by simp [Lg.tabs]
theorem Lg.i3 (L : Lg K mg base) : (L.kinds.P, lamQ "_law_kinds_right" (defScope (top 55))) ∈ L.tabs := by simp [Lg.tabs]
theorem Lg.i4 (L : Lg K mg base) : (L.law.P, lamQ "law" (defScope (top 56))) ∈ L.tabs := by simp [Lg.tabs]
end
/-- all stays but the bag and the tables -/
def BgN (g : Addr) (H H' : Hp) : Prop := ∀ a u, a ≠ g → (∀ ps, u ≠ .tbl ps) → H a = some u → H' a = some u
theorem BgN.of {g : Addr} {H H' : Hp} (e : Bg g H H') : BgN g H H' := fun a u n _ h => e a u n h
theorem BgN.same {g : Addr} {H H' : Hp} (e : Same H H') : BgN g H H' := fun a u _ _ h => e a u h
theorem BgN.ext {g : Addr} {H H' : Hp} (e : ExtN H H') : BgN g H H' := fun a u _ n h => e a u h n
theorem BgN.trans {g : Addr} {H H1 H2 : Hp} (e : BgN g H H1) (f : BgN g H1 H2) : BgN g H H2 := fun a u n m h => f a u n m (e a u n m h)
theorem IsBag.ext {g : Addr} {H H' : Hp} (e : ExtN H H') (h : IsBag H g) : IsBag H' g := by
  obtain ⟨x, y, z, h⟩ := h
  exact ⟨x, y, z, e _ _ h fun ps q => by cases q⟩
theorem IsBag.same {g : Addr} {H H' : Hp} (e : Same H H') (h : IsBag H g) : IsBag H' g := by
  obtain ⟨x, y, z, h⟩ := h
  exact ⟨x, y, z, e _ _ h⟩
theorem Tabs.bg {T : List (Addr × Str)} {g : Addr} {H H' : Hp} (t : Tabs T H) (b : IsBag H g) (e : Bg g H H') : Tabs T H' := fun p hp => by
  obtain ⟨ps, h1, h2, h3⟩ := t p hp
  obtain ⟨x, y, z, hg⟩ := b
  refine ⟨ps, e _ _ (ne_of h1 hg (by intro z; cases z)) h1, h2, fun pos cv hc => ?_⟩
  obtain ⟨c, e1, e2⟩ := h3 pos cv hc
  exact ⟨c, e1, e _ _ (ne_of e2 hg (by intro z; cases z)) e2⟩
end Tx

set_option maxRecDepth 100000
set_option maxHeartbeats 2000000
namespace Tx
open PySem PySem.Spec PyProof.Rows L2
local macro_rules | `(tactic| walk_at "sx") => `(tactic| simp only [cxK, tSeq, tIfS, tTest, tOp, tUn, tSl, tVar, tPart, tNoPart, tC, tRet, tRetN, tNext, tAsg, tPar, tPar3, tAug, tDrop, tB, tAnd, tOr, tNot, tAndV, tOrV, tNotV, tIf, tChain, tCons, tNil, tTup, tLst, tCall, tCB, tBM, tBM0, gName, gCons, gNil, gTup, rNe, rEq, rI0, rI, rU, rSlS, ipI, tRaiseErr, tMkErr, rAppend, tLstRg, tRg1, tRg2, L2.start, List.map_cons, List.map_nil, List.length_cons, List.length_nil, List.cons_append, List.nil_append, List.append_nil, List.getElem?_cons_zero, List.getElem?_cons_succ, List.set_cons_zero, List.set_cons_succ, Option.some.injEq, V.int.injEq, V.str.injEq, V.bl.injEq, V.ref.injEq, List.cons.injEq, exists_eq_left, exists_eq_left', exists_eq_right', exists_and_left, exists_and_right, true_and, and_true, Nat.reduceAdd, Nat.reduceSub, Nat.zero_add, List.replicate_zero, List.replicate_succ, ite_d, ite_nd, ite_b, scal, len_tx, tl_tx, eq_tx, app_tx, cut_nat, cut_to, cut_from, cut_t1, cut_t2, cut_t3, one_at, none_at, two_at, take1, take2, dr0, dr1, forall_eq', forall_eq, nc1, nc2, nc3, nca, Int.natCast_pos, Int.natCast_eq_zero, Bool.not_eq_true', Bool.not_eq_false', decide_eq_true_eq, decide_eq_false_iff_not, Bool.not_true, Bool.not_false, Decidable.not_not, WE, ex2, ex3, Nat.add_sub_add_left, Int.ofNat_lt, Int.natCast_inj, if_true, if_false, Bool.true_eq_false, Bool.false_eq_true, eq_self_iff_true, Nat.add_sub_cancel_left, Nat.add_sub_cancel, imp_false, not_false_eq_true, not_true_eq_false, forall_const, exists_and_self, reduceCtorEq, false_and, and_false, exists_false, List.cons_ne_nil, wipe, List.foldr_cons, List.foldr_nil, List.foldl_cons, List.foldl_nil, tYes, tCKw, tM1, gSub, tAugS, lit_e, lit_10, lit_32, lit_32_32, lit_32_43_32, lit_32_43_32_91_49_93, lit_32_45_32, lit_40, lit_40_41, lit_40_41_40_41, lit_40_48_32_49, lit_40_48_32_49_41, lit_40_48_32_49_41_40_50_32_49_41, lit_40_48_41, lit_41, lit_43, lit_44, lit_44_44, lit_44_51, lit_45, lit_45_48, lit_45_48_91_49_93, lit_48, lit_48_48, lit_48_49, lit_48_49_50_51_52_53_54_55_56_57, lit_49, lit_49_44_44_50, lit_50, lit_50_91_48_93_32_43_91_49_93, lit_57, lit_91, lit_91_48_49_93, lit_91_48_93, lit_91_50_93, lit_93, lit_107_105_110_100_115, lit_109_111_118_101, lit_112_97_114_115_101, lit_114_111_119, lit_116_111_108_100, lit_120])
local macro_rules | `(tactic| walk_at "sl") => `(tactic| simp only [lit_e, lit_10, lit_32, lit_32_32, lit_32_43_32, lit_32_43_32_91_49_93, lit_32_45_32, lit_40, lit_40_41, lit_40_41_40_41, lit_40_48_32_49, lit_40_48_32_49_41, lit_40_48_32_49_41_40_50_32_49_41, lit_40_48_41, lit_41, lit_43, lit_44, lit_44_44, lit_44_51, lit_45, lit_45_48, lit_45_48_91_49_93, lit_48, lit_48_48, lit_48_49, lit_48_49_50_51_52_53_54_55_56_57, lit_49, lit_49_44_44_50, lit_50, lit_50_91_48_93_32_43_91_49_93, lit_57, lit_91, lit_91_48_49_93, lit_91_48_93, lit_91_50_93, lit_93, lit_107_105_110_100_115, lit_109_111_118_101, lit_112_97_114_115_101, lit_114_111_119, lit_116_111_108_100, lit_120])
section
variable {w : World} {K : PySem.W.Frag} {mg : Str → Option Value} {base : Heap}
end
open LamX
section
variable {w : World} {K : PySem.W.Frag} {mg : Str → Option Value} {base : Heap}
/-! ### answers compared -/
def ocD : Oc → PyData
  | .parse e => .tuple [.str ⟨([112, 97, 114, 115, 101] : List Nat).toArray⟩, .int (e : Nat)]
  | .own s => .tuple [.str ⟨s.toArray⟩]
  | .told f => .tuple [.str ⟨([116, 111, 108, 100] : List Nat).toArray⟩, .tuple (f.map PyData.int)]
theorem OcAt.dp {K : PySem.W.Frag} {H : Hp} {p : Addr} : ∀ {o : Oc}, OcAt H p o → Dp K H (.ref p) (ocD o)
  | .parse e, h => .tup (SqT.of h) (.cons (.str _) (.cons (.int _) .nil))
  | .own s, h => .tup (SqT.of h) (.cons (.str _) .nil)
  | .told f, h => by
    obtain ⟨q, h1, h2⟩ := h
    exact .tup (SqT.of h1) (.cons (.str _) (.cons (.tup (SqT.of h2) (dp_ints f)) .nil))
def OcLay (o : Oc) : Prop := ∀ s, o = .own s → PyData.canLay0 (.str ⟨s.toArray⟩) = true
theorem lay_parse : PyData.canLay0 (.str ⟨([112, 97, 114, 115, 101] : List Nat).toArray⟩) = true := by decide +kernel
theorem lay_told : PyData.canLay0 (.str ⟨([116, 111, 108, 100] : List Nat).toArray⟩) = true := by decide +kernel
theorem oc_shaped {o : Oc} (h : OcLay o) : SeqAt.shaped (ocD o) = true := by
  cases o with
  | parse e =>
    show (PyData.canLay0 (.str ⟨([112, 97, 114, 115, 101] : List Nat).toArray⟩) && (true && true) && decide (max 0 (max 0 0) + 1 ≤ 64)) = true
    rw [lay_parse]
    rfl
  | own s =>
    have := h s rfl
    show (PyData.canLay0 (.str ⟨s.toArray⟩) && true && decide (max 0 0 + 1 ≤ 64)) = true
    rw [this]
    rfl
  | told f =>
    have h1 := depth_ints f
    have h2 := lay_ints f
    show (PyData.canLay0 (.str ⟨([116, 111, 108, 100] : List Nat).toArray⟩) && (PyData.canLayAll0 (f.map PyData.int) && true) && decide (max 0 (max (PyData.depthAll (f.map PyData.int) + 1) 0) + 1 ≤ 64)) = true
    rw [h2, decide_eq_true (by omega), lay_told]
    rfl
theorem eq_oc {K : PySem.W.Frag} {H : Hp} {Q : VK} {p q : Addr} {o : Oc} (hl : OcLay o) (h1 : OcAt H p o) (h2 : OcAt H q o) (k : Q (.bl true) H) : rEqD K (.ref p) (.ref q) H Q := by
  refine ⟨ocD o, ocD o, h1.dp, h2.dp, oc_shaped hl, oc_shaped hl, ?_⟩
  rw [SeqAt.eqv_refl _ (SeqAt.canLay_of_shaped (oc_shaped hl))]
  exact k
/-! ### what a reader tells, by _law_met -/
section
variable {K : PySem.W.Frag} {mg : Str → Option Value} {S : Pg K mg} {Q : VK} {H : Hp}
def EchM (S : Pg K mg) (Q : VK) : XK := fun cls d H' => ∀ σ' : L2.St, List.length σ' = 2 → wCls K (metEnds Q) (metL S) cls d σ' H'
def QtM (Q : VK) : VK := fun x H1 => 2 ≤ sizeLine ∧ ∀ p, H1 p = none → Q (.ref p) (upd H1 p (.tup [.str (Str.ofString "told"), x]))
theorem met_err (M : MetOk S) {e : Nat} (k : okOc H Q (.parse e)) : errAt S e H (EchM S Q) := fun d H' es hd hdd => met_parse M hdd fun p hp => k p _ (es.trans (Same.new hp)) (es.free hp) upd_same
theorem met_told {f : List Int} (k : okOc H Q (.told f)) : okTup H (QtM Q) (f.map V.int) := fun q H' es hq hqq => by
  refine ⟨by decide, fun p hp => ?_⟩
  rw [lit_116_111_108_100]
  exact k p _ (es.trans (Same.new hp)) (es.free hp) ⟨q, upd_same, Same.new hp _ _ hqq⟩
theorem met_readM (M : MetOk S) {l : List Nat} {p : Nat} (hl : l.length ≤ 3000) (h1 : 1 ≤ p) (h2 : p ≤ 24) (k : okOc H Q (moveOc p l)) : sp_read_move S [tx l, .int (p : Nat)] H (QtM Q) (EchM S Q) := by
  refine ⟨l, p, rfl, hl, h1, h2, ?_⟩
  unfold moveOc at k
  cases e1 : ringsOf l with
  | error e =>
    rw [e1] at k
    exact met_err M k
  | ok cs =>
    rw [e1] at k
    dsimp only at k ⊢
    cases e2 : moveOf p cs with
    | none =>
      rw [e2] at k
      exact fun H' es => met_move M fun p hp => k p _ (es.trans (Same.new hp)) (es.free hp) upd_same
    | some f =>
      rw [e2] at k
      exact met_told k
theorem met_readR (M : MetOk S) {l : List Nat} (hl : l.length ≤ 3000) (k : okOc H Q (rowOc l)) : sp_read_row S [tx l] H (QtM Q) (EchM S Q) := by
  refine ⟨l, rfl, hl, ?_⟩
  unfold rowOc at k
  cases e1 : row l 0 [] with
  | error e =>
    rw [e1] at k
    exact met_err M k
  | ok xs =>
    rw [e1] at k
    dsimp only at k ⊢
    by_cases c : 60 < xs.length
    · rw [if_pos c] at k ⊢
      exact fun H' es => met_row M fun p hp => k p _ (es.trans (Same.new hp)) (es.free hp) upd_same
    · rw [if_neg c] at k ⊢
      exact met_told k
theorem met_readK (M : MetOk S) {l : List Nat} {n : Nat} (hl : l.length ≤ 3000) (h1 : 1 ≤ n) (h2 : n ≤ 60) (k : okOc H Q (kindsOc n l)) : sp_read_kinds S [tx l, .int (n : Nat)] H (QtM Q) (EchM S Q) := by
  refine ⟨l, n, rfl, hl, h1, h2, ?_⟩
  unfold kindsOc at k
  cases e1 : termsAll l with
  | error e =>
    rw [e1] at k
    exact met_err M k
  | ok ts =>
    rw [e1] at k
    dsimp only at k ⊢
    cases e2 : kindsOf n ts with
    | none =>
      rw [e2] at k
      exact fun H' es => met_kinds M fun p hp => k p _ (es.trans (Same.new hp)) (es.free hp) upd_same
    | some f =>
      rw [e2] at k
      exact met_told k
end
theorem lay_moveOc (p : Nat) (l : List Nat) : OcLay (moveOc p l) := fun s h => by
  unfold moveOc at h
  split at h
  · cases h
  · split at h
    · cases h
      decide +kernel
    · cases h
theorem lay_rowOc (l : List Nat) : OcLay (rowOc l) := fun s h => by
  unfold rowOc at h
  split at h
  · cases h
  · split at h
    · cases h
      decide +kernel
    · cases h
theorem lay_kindsOc (n : Nat) (l : List Nat) : OcLay (kindsOc n l) := fun s h => by
  unfold kindsOc at h
  split at h
  · cases h
  · split at h
    · cases h
      decide +kernel
    · cases h
/-! ### signs -/
def SG (xs : List V) : Prop := ∃ sg : List (List Nat), xs = sg.map tx ∧ ∀ s ∈ sg, s.length ≤ 61
theorem SG.nil : SG [] := ⟨[], rfl, fun s h => nomatch h⟩
theorem SG.cons {s : List Nat} {xs : List V} (h : s.length ≤ 61) (t : SG xs) : SG (.str ⟨s.toArray⟩ :: xs) := by
  obtain ⟨sg, e, hs⟩ := t
  refine ⟨s :: sg, by rw [e]; rfl, fun z hz => ?_⟩
  rcases List.mem_cons.mp hz with rfl | hz
  · exact h
  · exact hs z hz
theorem SG.consS {z : Str} {xs : List V} (h : z.length ≤ 61) (t : SG xs) : SG (.str z :: xs) := by
  rw [tx_all]
  exact SG.cons (by rw [len_all]; exact h) t
theorem near_of {g b : Addr} {l : List Nat} {xs : List V} {H : Hp} {Q : VK} {E : XK} (hb : IsBag H g) (hbg : b ≠ g) (h : H b = some (.lst xs)) (hs : SG xs) (hx : xs ≠ []) (hxl : xs.length ≤ 1000) (hl : l.length ≤ 90000)
    (k : ∀ (l' : List Nat) H', Bg g H H' → IsBag H' g → l'.length ≤ l.length + 61 → Q (tx l') H') : sp__law_near_text [.ref g, tx l, .ref b] H Q E := by
  obtain ⟨sg, rfl, hsg⟩ := hs
  exact ⟨g, b, l, sg, rfl, hb, hbg, h, (fun z => hx (by rw [z]; rfl)), by rwa [List.length_map] at hxl, hl, hsg, k⟩
theorem tFor_eq {wi : TI} {g : TG} {tb : TS} {D : Ends} {σ : L2.St} {H : Hp} : tFor wi g tb D σ H = wi σ H (fun J H1 => tFor (fun _ H R => R J H) g tb D σ H1) := rfl
def sp_right (L : Lg K mg base) : Sp := fun vs H Q _ => ∃ g : Addr, vs = [.ref g] ∧ IsBag H g ∧ Tabs L.tabs H ∧ ∀ H', BgN g H H' → IsBag H' g → Tabs L.tabs H' → Q (.bl true) H'
theorem ok__law_moves_right (S : Pg K mg) (M : MetOk S) (L : Lg K mg base) : FnOk prog w K mg base CX0 8 L.moves.f L.moves.fd ["bag"] (sp_right L) := by
  refine L.moves.F.ok sc__law_moves_right (fun vs H Q E h => ?_) (fun A outer s H vs Q E hr h => ?_)
  · obtain ⟨g, rfl, _⟩ := h
    rfl
  · obtain ⟨g, rfl, ⟨b0, b1, b2, hg⟩, hT, k⟩ := h
    refine ⟨_, (pss_cons (ps_set (i := 1) sc__law_moves_right.nd rfl (Or.inr rfl) (pe_op op_add pe_int (pe_call (ok__law_grab S) (hr.mono (by decide)) rfl S._law_grab.m S._law_grab.F.kp S._law_grab.b .nil pass0 (pa_cons (pv 0) (pa_cons pe_int pa_nil)))))
  (pss_cons (ps_set (i := 2) sc__law_moves_right.nd rfl (Or.inr rfl) (pe_call (ok__law_move_text S) (hr.mono (by decide)) rfl S._law_move_text.m S._law_move_text.F.kp S._law_move_text.b .nil pass0 (pa_cons (pe_call (ok__law_move_drawn S) (hr.mono (by decide)) rfl S._law_move_drawn.m S._law_move_drawn.F.kp S._law_move_drawn.b .nil pass0 (pa_cons (pv 0) (pa_cons (pv 1) pa_nil))) pa_nil)))
  (pss_cons (ps_for PassesOwn.never rfl (pi_range1 (by rfl) S.b_range (pa_cons (pe_call (ok__law_grab S) (hr.mono (by decide)) rfl S._law_grab.m S._law_grab.F.kp S._law_grab.b .nil pass0 (pa_cons (pv 0) (pa_cons pe_int pa_nil))) pa_nil)) (pg_name (i := 3) sc__law_moves_right.nd rfl (Or.inl rfl))
    (pss_one (ps_set (i := 2) sc__law_moves_right.nd rfl (Or.inr rfl) (pe_call (ok__law_near_text S) (hr.mono (by decide)) rfl S._law_near_text.m S._law_near_text.F.kp S._law_near_text.b .nil pass0 (pa_cons (pv 0) (pa_cons (pv 2) (pa_cons (pe_lst (pa_cons pe_str (pa_cons pe_str (pa_cons pe_str (pa_cons pe_str (pa_cons pe_str (pa_cons pe_str (pa_cons pe_str (pa_cons pe_str (pa_cons pe_str (pa_cons pe_str (pa_cons pe_str (pa_cons pe_str (pa_cons pe_str (pa_cons (pe_op op_mulS pe_str pe_int) (pa_cons pe_str pa_nil)))))))))))))))) pa_nil)))))))
  (pss_one (ps_ret (pe_cmpR (op_eqD hr.units) (pe_met rfl rfl (k := 5) (T := L.tabs) (t := fun E => tCall (sp_read_move S) [] E (tCons (tVar 2) (tCons (tVar 1) tNil))) S M rfl L.moves.T rfl L.i1 L.u1 (hr.mono (by decide)) (lamS_by (sc := defScope (top 52)) (by decide +kernel)) rfl (fun _ _ _ _ _ => rfl) (fun A outer s H E f c hr2 => (pe_call (ok_read_move S) (hr2.mono (by decide)) rfl S.read_move.m S.read_move.F.kp S.read_move.b .nil (passes_call (takes_of rfl rfl rfl rfl) (fun _ _ _ _ h => h)) (pa_cons (pv 2) (pa_cons (pv 1) pa_nil))))) (pe_call (ok__law_move_read S) (hr.mono (by decide)) rfl S._law_move_read.m S._law_move_read.F.kp S._law_move_read.b .nil pass0 (pa_cons (pv 2) (pa_cons (pv 1) pa_nil))) (nomark _))))))), ?_⟩
    walk_at "sx"
    refine ⟨g, b0, b1, b2, 12, rfl, hg, by decide, by decide, fun r x1 y1 z1 h0 h1 => ⟨r, rfl, ?_⟩⟩
    obtain ⟨n, rfl⟩ := Int.eq_ofNat_of_zero_le h0
    refine ⟨g, 1 + n, rfl, ⟨_, _, _, upd_same⟩, by omega, by omega, fun ns a H2 e2 hb2 ha0 ha hm => ⟨a, ns, 1 + n, rfl, ha, hm, by omega, fun l H3 e3 hl => ?_⟩⟩
    have e4 : Bg g H H3 := (Bg.put.trans e2).trans (Bg.same e3)
    have hb3 := hb2.same e3
    dsimp only
    rw [tFor_eq]
    unfold iRng1
    walk_at "sx"
    obtain ⟨c0, c1, c2, hg3⟩ := hb3
    refine ⟨g, c0, c1, c2, 3, rfl, hg3, by decide, by decide, fun r2 x2 y2 z2 h2 h3 => ⟨_, rfl, by omega, by omega, ?_⟩⟩
    obtain ⟨n2, rfl⟩ := Int.eq_ofNat_of_zero_le h2
    rw [Int.toNat_natCast]
    refine for_it (J := Itr 0 n2) (fun R h => h) (itR (lo := 0) (n := n2)) (fun i σ H' => ∃ l o3, Bg g H H' ∧ IsBag H' g ∧ List.length l ≤ 1000 + 61 * i ∧ σ = [some (.ref g), some (.int ((1 + n : Nat) : Int)), some (tx l), o3]) ⟨l, _, e4.trans Bg.put, ⟨_, _, _, upd_same⟩, hl, rfl⟩ (fun _ _ _ _ _ => True.intro) ?_ ?_
    · rintro i x σ H4 hx ⟨l2, o3, e5, hb5, hl2, rfl⟩
      have hin := (List.getElem?_eq_some_iff.mp hx).1
      rw [List.length_map, List.length_range] at hin
      walk_at "sx"
      refine ⟨_, _, rfl, rfl, by decide, by decide, by decide, by decide, ?_⟩
      refine ⟨by decide, fun b hb => ?_⟩
      have hgb : g ≠ b := by
        obtain ⟨_, _, _, h⟩ := hb5
        exact ne_of_none h hb
      refine near_of (hb5.same (Same.new hb)) (Ne.symm hgb) upd_same ?_ (by simp) (show 15 ≤ 1000 by decide) (by omega) fun l' H' e6 hb6 hl6 => ⟨(e5.trans (Bg.same (Same.new hb))).trans e6, hb6, l', by omega, rfl⟩
      repeat' first
        | exact SG.nil
        | refine SG.cons (by decide) ?_
        | refine SG.consS (by rw [rep_size]; decide) ?_
    · rintro σ H4 ⟨l2, o3, e5, hb5, hl2, rfl⟩
      rw [List.length_map, List.length_range] at hl2
      walk_at "sx"
      refine ⟨Tabs.bg hT ⟨b0, b1, b2, hg⟩ e5, fun H5 x5 T5 => ?_⟩
      have hb6 := hb5.ext x5
      have e6 := (BgN.of e5).trans (BgN.ext x5)
      refine ⟨_, rfl, _, rfl, met_readM M (by omega) (by omega) (by omega) fun p H7 e7 hp hp7 => ?_⟩
      refine ⟨l2, 1 + n, rfl, by omega, by omega, by omega, fun q H8 e8 hq hq8 => eq_oc (lay_moveOc _ _) (hp7.go e8) hq8 ?_⟩
      exact k H8 ((e6.trans (BgN.same e7)).trans (BgN.same e8)) ((hb6.same e7).same e8) ((T5.ext e7).ext e8)
end
end Tx

set_option maxRecDepth 100000
set_option maxHeartbeats 2000000
namespace Tx
open PySem PySem.Spec PyProof.Rows L2
local macro_rules | `(tactic| walk_at "sx") => `(tactic| simp only [cxK, tSeq, tIfS, tTest, tOp, tUn, tSl, tVar, tPart, tNoPart, tC, tRet, tRetN, tNext, tAsg, tPar, tPar3, tAug, tDrop, tB, tAnd, tOr, tNot, tAndV, tOrV, tNotV, tIf, tChain, tCons, tNil, tTup, tLst, tCall, tCB, tBM, tBM0, gName, gCons, gNil, gTup, rNe, rEq, rI0, rI, rU, rSlS, ipI, tRaiseErr, tMkErr, rAppend, tLstRg, tRg1, tRg2, L2.start, List.map_cons, List.map_nil, List.length_cons, List.length_nil, List.cons_append, List.nil_append, List.append_nil, List.getElem?_cons_zero, List.getElem?_cons_succ, List.set_cons_zero, List.set_cons_succ, Option.some.injEq, V.int.injEq, V.str.injEq, V.bl.injEq, V.ref.injEq, List.cons.injEq, exists_eq_left, exists_eq_left', exists_eq_right', exists_and_left, exists_and_right, true_and, and_true, Nat.reduceAdd, Nat.reduceSub, Nat.zero_add, List.replicate_zero, List.replicate_succ, ite_d, ite_nd, ite_b, scal, len_tx, tl_tx, eq_tx, app_tx, cut_nat, cut_to, cut_from, cut_t1, cut_t2, cut_t3, one_at, none_at, two_at, take1, take2, dr0, dr1, forall_eq', forall_eq, nc1, nc2, nc3, nca, Int.natCast_pos, Int.natCast_eq_zero, Bool.not_eq_true', Bool.not_eq_false', decide_eq_true_eq, decide_eq_false_iff_not, Bool.not_true, Bool.not_false, Decidable.not_not, WE, ex2, ex3, Nat.add_sub_add_left, Int.ofNat_lt, Int.natCast_inj, if_true, if_false, Bool.true_eq_false, Bool.false_eq_true, eq_self_iff_true, Nat.add_sub_cancel_left, Nat.add_sub_cancel, imp_false, not_false_eq_true, not_true_eq_false, forall_const, exists_and_self, reduceCtorEq, false_and, and_false, exists_false, List.cons_ne_nil, wipe, List.foldr_cons, List.foldr_nil, List.foldl_cons, List.foldl_nil, tYes, tCKw, tM1, gSub, tAugS, lit_e, lit_10, lit_32, lit_32_32, lit_32_43_32, lit_32_43_32_91_49_93, lit_32_45_32, lit_40, lit_40_41, lit_40_41_40_41, lit_40_48_32_49, lit_40_48_32_49_41, lit_40_48_32_49_41_40_50_32_49_41, lit_40_48_41, lit_41, lit_43, lit_44, lit_44_44, lit_44_51, lit_45, lit_45_48, lit_45_48_91_49_93, lit_48, lit_48_48, lit_48_49, lit_48_49_50_51_52_53_54_55_56_57, lit_49, lit_49_44_44_50, lit_50, lit_50_91_48_93_32_43_91_49_93, lit_57, lit_91, lit_91_48_49_93, lit_91_48_93, lit_91_50_93, lit_93, lit_107_105_110_100_115, lit_109_111_118_101, lit_112_97_114_115_101, lit_114_111_119, lit_116_111_108_100, lit_120])
local macro_rules | `(tactic| walk_at "sl") => `(tactic| simp only [lit_e, lit_10, lit_32, lit_32_32, lit_32_43_32, lit_32_43_32_91_49_93, lit_32_45_32, lit_40, lit_40_41, lit_40_41_40_41, lit_40_48_32_49, lit_40_48_32_49_41, lit_40_48_32_49_41_40_50_32_49_41, lit_40_48_41, lit_41, lit_43, lit_44, lit_44_44, lit_44_51, lit_45, lit_45_48, lit_45_48_91_49_93, lit_48, lit_48_48, lit_48_49, lit_48_49_50_51_52_53_54_55_56_57, lit_49, lit_49_44_44_50, lit_50, lit_50_91_48_93_32_43_91_49_93, lit_57, lit_91, lit_91_48_49_93, lit_91_48_93, lit_91_50_93, lit_93, lit_107_105_110_100_115, lit_109_111_118_101, lit_112_97_114_115_101, lit_114_111_119, lit_116_111_108_100, lit_120])
section
variable {w : World} {K : PySem.W.Frag} {mg : Str → Option Value} {base : Heap}
end
open LamX
section
variable {w : World} {K : PySem.W.Frag} {mg : Str → Option Value} {base : Heap}
/-- for turn in range(_law_grab(bag, 3)): text = _law_near_text(bag, text, [..]) -/
theorem near_loop {ts : TA} {D : Ends} {g : Addr} {l : List Nat} {o1 o3 : Option V} {H : Hp} (hsg : ∀ (σ : L2.St) (H' : Hp) (R : List V → Hp → Prop), (∀ xs, SG xs → xs ≠ [] → xs.length ≤ 1000 → R xs H') → ts σ H' R)
    (hb : IsBag H g) (hl : l.length ≤ 80000) (k : ∀ (l' : List Nat) o3' H', Bg g H H' → IsBag H' g → l'.length ≤ l.length + 122 → D.nx [some (.ref g), o1, some (tx l'), o3'] H') :
    tFor (iRng1 (tCons (tCall sp__law_grab [] E0 (tCons (tVar 0) (tCons (tC (V.int 3)) tNil))) tNil)) (gName 3) (tAsg (tCall sp__law_near_text [] E0 (tCons (tVar 0) (tCons (tVar 2) (tCons (tLst ts) tNil)))) (gName 2)) D [some (.ref g), o1, some (tx l), o3] H := by
  rw [tFor_eq]
  unfold iRng1
  walk_at "sx"
  obtain ⟨c0, c1, c2, hg3⟩ := hb
  refine ⟨g, c0, c1, c2, 3, rfl, hg3, by decide, by decide, fun r2 x2 y2 z2 h2 h3 => ⟨_, rfl, by omega, by omega, ?_⟩⟩
  obtain ⟨n2, rfl⟩ := Int.eq_ofNat_of_zero_le h2
  rw [Int.toNat_natCast]
  refine for_it (J := Itr 0 n2) (fun R h => h) (itR (lo := 0) (n := n2)) (fun i σ H' => ∃ l2 o3, Bg g H H' ∧ IsBag H' g ∧ List.length l2 ≤ l.length + 61 * i ∧ σ = [some (.ref g), o1, some (tx l2), o3]) ⟨l, _, Bg.put, ⟨_, _, _, upd_same⟩, Nat.le_refl _, rfl⟩ (fun _ _ _ _ _ => True.intro) ?_ ?_
  · rintro i x σ H4 hx ⟨l2, o3, e5, hb5, hl2, rfl⟩
    have hin := (List.getElem?_eq_some_iff.mp hx).1
    rw [List.length_map, List.length_range] at hin
    walk_at "sx"
    refine hsg _ _ _ fun xs hs hne hxl => ⟨sz_of (by omega), fun b hb => ?_⟩
    have hgb : g ≠ b := by
      obtain ⟨_, _, _, h⟩ := hb5
      exact ne_of_none h hb
    exact near_of (hb5.same (Same.new hb)) (Ne.symm hgb) upd_same hs hne hxl (by omega) fun l' H' e6 hb6 hl6 => ⟨(e5.trans (Bg.same (Same.new hb))).trans e6, hb6, l', by omega, rfl⟩
  · rintro σ H4 ⟨l2, o3, e5, hb5, hl2, rfl⟩
    rw [List.length_map, List.length_range] at hl2
    exact k l2 o3 H4 e5 hb5 (by omega)
theorem ints_of : ∀ {ys : List V}, (∀ y ∈ ys, ∃ m : Int, y = .int m ∧ isI m = true) → ∃ ms : List Int, ys = ms.map V.int ∧ ∀ m ∈ ms, isI m = true
  | [], _ => ⟨[], rfl, fun u hu => nomatch hu⟩
  | y :: r, h => by
    obtain ⟨s, rfl, hs⟩ := h y List.mem_cons_self
    obtain ⟨us, e, hu⟩ := ints_of (fun z hz => h z (List.mem_cons_of_mem _ hz))
    refine ⟨s :: us, by rw [e]; rfl, fun u hm => ?_⟩
    rcases List.mem_cons.mp hm with rfl | hm
    · exact hs
    · exact hu u hm
theorem text_len {n : Int} (h : isI n = true) : (Str.ofString (toString n)).length ≤ 61 ∧ n.natAbs.log2 < 1920 := by
  have hn := of_decide_eq_true h
  refine ⟨?_, Nat.lt_trans (PySem.Flt.log2_lt_of (k := 200) (by decide) (show n.natAbs < 2 ^ 200 by omega)) (by decide)⟩
  by_cases c : n < 0
  · rw [PyProof.Rows.len_text_neg c]
    have := PyProof.Rows.toString_length_le (v := 0 - n) (k := 60) (by omega) (by decide) (by omega)
    omega
  · exact Nat.le_trans (PyProof.Rows.toString_length_le (k := 60) (by omega) (by decide) hn.2) (by decide)
theorem ok__law_rows_right (S : Pg K mg) (M : MetOk S) (L : Lg K mg base) : FnOk prog w K mg base CX0 8 L.rows.f L.rows.fd ["bag"] (sp_right L) := by
  refine L.rows.F.ok sc__law_rows_right (fun vs H Q E h => ?_) (fun A outer s H vs Q E hr h => ?_)
  · obtain ⟨g, rfl, _⟩ := h
    rfl
  · obtain ⟨g, rfl, ⟨b0, b1, b2, hg⟩, hT, k⟩ := h
    refine ⟨_, (pss_cons (ps_set (i := 1) sc__law_rows_right.nd rfl (Or.inl rfl) (pe_call (ok__law_one_of S) (hr.mono (by decide)) rfl S._law_one_of.m S._law_one_of.F.kp S._law_one_of.b .nil pass0 (pa_cons (pv 0) (pa_cons (pe_lst (pa_cons pe_int (pa_cons pe_int (pa_cons pe_int (pa_cons pe_int (pa_cons pe_int (pa_cons pe_int (pa_cons pe_int (pa_cons pe_int (pa_cons pe_int pa_nil)))))))))) pa_nil))))
  (Evl.pss_cut (ps_set (i := 2) sc__law_rows_right.nd rfl (Or.inr rfl) (pe_join pe_str (pe_lc (own := [("turn", 3)]) rfl sc__law_rows_right.nd (pi_range1 (by rfl) S.b_range (pa_cons (pv 1) pa_nil)) (blkOk_by (N := ["bag", "many", "text", "turn"]) (sc := defScope (top 54)) (by decide +kernel)) (fun _ _ _ _ _ => (pg_name (i := 3) sc__law_rows_right.nd rfl (Or.inl rfl))) (fun _ _ _ _ _ => pts_nil) (fun _ _ _ _ _ => (pe_callTy call_str_int (by rfl) S.b_str (by decide +kernel) (pa_cons (pe_call (ok__law_number S) (hr.mono (by decide)) rfl S._law_number.m S._law_number.F.kp S._law_number.b .nil pass0 (pa_cons (pv 0) pa_nil)) pa_nil))))))
  (Evl.pss_cut (ps_for PassesOwn.never rfl (pi_range1 (by rfl) S.b_range (pa_cons (pe_call (ok__law_grab S) (hr.mono (by decide)) rfl S._law_grab.m S._law_grab.F.kp S._law_grab.b .nil pass0 (pa_cons (pv 0) (pa_cons pe_int pa_nil))) pa_nil)) (pg_name (i := 3) sc__law_rows_right.nd rfl (Or.inl rfl))
    (pss_one (ps_set (i := 2) sc__law_rows_right.nd rfl (Or.inr rfl) (pe_call (ok__law_near_text S) (hr.mono (by decide)) rfl S._law_near_text.m S._law_near_text.F.kp S._law_near_text.b .nil pass0 (pa_cons (pv 0) (pa_cons (pv 2) (pa_cons (pe_lst (pa_cons pe_str (pa_cons pe_str (pa_cons pe_str (pa_cons pe_str (pa_cons pe_str (pa_cons pe_str (pa_cons pe_str (pa_cons pe_str (pa_cons pe_str (pa_cons pe_str (pa_cons pe_str (pa_cons pe_str (pa_cons (pe_op op_mulS pe_str pe_int) (pa_cons (pe_op op_mulS pe_str pe_int) pa_nil))))))))))))))) pa_nil)))))))
  (pss_one (ps_ret (pe_cmpR (op_eqD hr.units) (pe_met rfl rfl (k := 5) (T := L.tabs) (t := fun E => tCall (sp_read_row S) [] E (tCons (tSl rSlS (tVar 2) tNoPart (tPart (tC (V.int 3000)))) tNil)) S M rfl L.rows.T rfl L.i2 L.u2 (hr.mono (by decide)) (lamS_by (sc := defScope (top 54)) (by decide +kernel)) rfl (fun _ _ _ _ _ => rfl) (fun A outer s H E f c hr2 => (pe_call (ok_read_row S) (hr2.mono (by decide)) rfl S.read_row.m S.read_row.F.kp S.read_row.b .nil (passes_call (takes_of rfl rfl rfl rfl) (fun _ _ _ _ h => h)) (pa_cons (pe_slice sl_str (pv 2) po_none (po_some pe_int)) pa_nil)))) (pe_call (ok__law_row_read S) (hr.mono (by decide)) rfl S._law_row_read.m S._law_row_read.F.kp S._law_row_read.b .nil pass0 (pa_cons (pe_slice sl_str (pv 2) po_none (po_some pe_int)) pa_nil)) (nomark _))))))), ?_⟩
    walk_at "sx"
    refine ⟨by decide, fun p hp => ?_⟩
    have hgp : g ≠ p := ne_of_none hg hp
    refine ⟨g, p, b0, b1, b2, _, rfl, by rw [upd_ne hgp]; exact hg, Ne.symm hgp, upd_same, by simp, (show 9 < 1000000 by decide), fun v hv x1 y1 z1 => ?_⟩
    have all : ∃ n : Nat, v = .int (n : Nat) ∧ n ≤ 61 := by
      simp only [List.mem_cons, List.not_mem_nil, or_false] at hv
      rcases hv with rfl | rfl | rfl | rfl | rfl | rfl | rfl | rfl | rfl
      · exact ⟨1, rfl, by decide⟩
      · exact ⟨2, rfl, by decide⟩
      · exact ⟨3, rfl, by decide⟩
      · exact ⟨3, rfl, by decide⟩
      · exact ⟨5, rfl, by decide⟩
      · exact ⟨8, rfl, by decide⟩
      · exact ⟨59, rfl, by decide⟩
      · exact ⟨60, rfl, by decide⟩
      · exact ⟨61, rfl, by decide⟩
    obtain ⟨n, rfl, hn⟩ := all
    have e1 : Bg g H (upd (upd H p (.lst [V.int 1, V.int 2, V.int 3, V.int 3, V.int 5, V.int 8, V.int 59, V.int 60, V.int 61])) g (.lst [.int x1, .int y1, .int z1])) := (Bg.same (Same.new hp)).trans Bg.put
    have hb1 : IsBag (upd (upd H p (.lst [V.int 1, V.int 2, V.int 3, V.int 3, V.int 5, V.int 8, V.int 59, V.int 60, V.int 61])) g (.lst [.int x1, .int y1, .int z1])) g := ⟨_, _, _, upd_same⟩
    generalize upd (upd H p (.lst [V.int 1, V.int 2, V.int 3, V.int 3, V.int 5, V.int 8, V.int 59, V.int 60, V.int 61])) g (.lst [.int x1, .int y1, .int z1]) = H1 at e1 hb1
    refine ⟨fun σ' H' => ∃ l o1, Bg g H H' ∧ IsBag H' g ∧ List.length l ≤ 70000 ∧ σ' = [some (.ref g), o1, some (tx l), none], ?_, ?_⟩
    · walk_at "sx"
      refine ⟨⟨_, rfl⟩, ?_⟩
      rw [tLc_eq]
      unfold iRng1
      walk_at "sx"
      refine ⟨by omega, by omega, ?_⟩
      rw [Int.toNat_natCast]
      refine lc_bag (J := Itr 0 n) (b := g) (fun y => ∃ s : Str, y = .str s ∧ s.length ≤ 61) (fun R h => h) (itR (lo := 0) (n := n)) hb1 (fun _ _ => True.intro) (by rw [List.length_map, List.length_range]; omega) (fun i x H' Ny hx e hb2 hy => ?_) (fun D H' ys hD e2 hb2 hDD hyl hys => ?_)
      · walk_at "sx"
        refine ⟨g, rfl, hb2, fun m H3 e3 hb3 hm => ?_⟩
        walk_at "sx"
        exact ⟨(text_len hm).2, hy _ _ e3 hb3 ⟨_, rfl, (text_len hm).1⟩⟩
      · obtain ⟨us, rfl, hus⟩ := strs_of hys
        rw [List.length_map, List.length_map, List.length_range] at hyl
        have hs1 := sum_le (fun a : Str => a.length) 61 us hus
        have hj := join_le (y := ⟨#[44]⟩) (n := 61) hus (by omega)
        have h44 : (⟨#[44]⟩ : Str).length = 1 := rfl
        rw [h44] at hj
        exact ⟨D, rfl, us, .inl (SqL.of hDD), by omega, e1.trans e2, hb2, ex_tx (by omega)⟩
    rintro σ' H1 ⟨l, o1, e1, hb1, hl, rfl⟩
    refine ⟨fun σ' H' => ∃ l o1 o3, Bg g H H' ∧ IsBag H' g ∧ List.length l ≤ 70122 ∧ σ' = [some (.ref g), o1, some (tx l), o3], ?_, ?_⟩
    · refine near_loop (fun σ H' R h => ?_) hb1 (by omega) fun l' o3 H' e2 hb2 hl2 => ⟨l', o1, o3, e1.trans e2, hb2, by omega, rfl⟩
      walk_at "sx"
      refine ⟨_, _, rfl, rfl, by decide, by decide, by decide, by decide, _, _, rfl, rfl, by decide, by decide, by decide, by decide, h _ ?_ (by simp) (show 14 ≤ 1000 by decide)⟩
      repeat' first
        | exact SG.nil
        | refine SG.cons (by decide) ?_
        | refine SG.consS (by rw [rep_size]; decide) ?_
    rintro σ' H2 ⟨l, o1, o3, e2, hb2, hl2, rfl⟩
    walk_at "sx"
    refine ⟨Tabs.bg hT ⟨b0, b1, b2, hg⟩ e2, fun H5 x5 T5 => ?_⟩
    have hb6 := hb2.ext x5
    have e6 := (BgN.of e2).trans (BgN.ext x5)
    have hlt : (l.take 3000).length ≤ 3000 := by rw [List.length_take]; omega
    unfold TTmet
    walk_at "sx"
    refine ⟨sz_of (by omega), met_readR M hlt fun p H7 e7 hp hp7 => ⟨sz_of (by omega), l.take 3000, rfl, hlt, fun q H8 e8 hq hq8 => eq_oc (lay_rowOc _) (hp7.go e8) hq8 ?_⟩⟩
    exact k H8 ((e6.trans (BgN.same e7)).trans (BgN.same e8)) ((hb6.same e7).same e8) ((T5.ext e7).ext e8)
theorem ok__law_kinds_right (S : Pg K mg) (M : MetOk S) (L : Lg K mg base) : FnOk prog w K mg base CX0 8 L.kinds.f L.kinds.fd ["bag"] (sp_right L) := by
  refine L.kinds.F.ok sc__law_kinds_right (fun vs H Q E h => ?_) (fun A outer s H vs Q E hr h => ?_)
  · obtain ⟨g, rfl, _⟩ := h
    rfl
  · obtain ⟨g, rfl, ⟨b0, b1, b2, hg⟩, hT, k⟩ := h
    refine ⟨_, (pss_cons (ps_set (i := 1) sc__law_kinds_right.nd rfl (Or.inr rfl) (pe_op op_add pe_int (pe_call (ok__law_grab S) (hr.mono (by decide)) rfl S._law_grab.m S._law_grab.F.kp S._law_grab.b .nil pass0 (pa_cons (pv 0) (pa_cons pe_int pa_nil)))))
  (Evl.pss_cut (ps_set (i := 2) sc__law_kinds_right.nd rfl (Or.inr rfl) (pe_call (ok__law_kinds_text S) (hr.mono (by decide)) rfl S._law_kinds_text.m S._law_kinds_text.F.kp S._law_kinds_text.b .nil pass0 (pa_cons (pe_callTy call_tuple_of (by rfl) S.b_tuple (by decide +kernel) (pa_cons (pe_lc (own := [("turn", 3)]) rfl sc__law_kinds_right.nd (pi_range1 (by rfl) S.b_range (pa_cons (pv 1) pa_nil)) (blkOk_by (N := ["bag", "length", "text", "turn"]) (sc := defScope (top 55)) (by decide +kernel)) (fun _ _ _ _ _ => (pg_name (i := 3) sc__law_kinds_right.nd rfl (Or.inl rfl))) (fun _ _ _ _ _ => pts_nil) (fun _ _ _ _ _ => (pe_call (ok__law_number S) (hr.mono (by decide)) rfl S._law_number.m S._law_number.F.kp S._law_number.b .nil pass0 (pa_cons (pv 0) pa_nil)))) pa_nil)) pa_nil)))
  (Evl.pss_cut (ps_if (pt_cmpR op_eq (pe_call (ok__law_grab S) (hr.mono (by decide)) rfl S._law_grab.m S._law_grab.F.kp S._law_grab.b .nil pass0 (pa_cons (pv 0) (pa_cons pe_int pa_nil))) pe_int (nomark _))
    (pss_one (ps_set (i := 2) sc__law_kinds_right.nd rfl (Or.inr rfl) (pe_op op_add_str (pe_op op_add_str (pe_op op_add_str (pe_op op_add_str (pe_op op_add_str (pv 2) pe_str) (pe_callTy call_str_int (by rfl) S.b_str (by decide +kernel) (pa_cons (pe_op op_sub (pe_op op_pow pe_int pe_int) pe_int) pa_nil))) pe_str) (pe_callTy call_str_int (by rfl) S.b_str (by decide +kernel) (pa_cons (pe_call (ok__law_grab S) (hr.mono (by decide)) rfl S._law_grab.m S._law_grab.F.kp S._law_grab.b .nil pass0 (pa_cons (pv 0) (pa_cons (pe_op op_add (pv 1) pe_int) pa_nil))) pa_nil))) pe_str)))
    pss_nil)
  (Evl.pss_cut (ps_for PassesOwn.never rfl (pi_range1 (by rfl) S.b_range (pa_cons (pe_call (ok__law_grab S) (hr.mono (by decide)) rfl S._law_grab.m S._law_grab.F.kp S._law_grab.b .nil pass0 (pa_cons (pv 0) (pa_cons pe_int pa_nil))) pa_nil)) (pg_name (i := 3) sc__law_kinds_right.nd rfl (Or.inl rfl))
    (pss_one (ps_set (i := 2) sc__law_kinds_right.nd rfl (Or.inr rfl) (pe_call (ok__law_near_text S) (hr.mono (by decide)) rfl S._law_near_text.m S._law_near_text.F.kp S._law_near_text.b .nil pass0 (pa_cons (pv 0) (pa_cons (pv 2) (pa_cons (pe_lst (pa_cons pe_str (pa_cons pe_str (pa_cons pe_str (pa_cons pe_str (pa_cons pe_str (pa_cons pe_str (pa_cons pe_str (pa_cons pe_str (pa_cons pe_str (pa_cons pe_str (pa_cons pe_str (pa_cons pe_str (pa_cons (pe_op op_mulS pe_str pe_int) (pa_cons pe_str (pa_cons pe_str pa_nil)))))))))))))))) pa_nil)))))))
  (pss_one (ps_ret (pe_cmpR (op_eqD hr.units) (pe_met rfl rfl (k := 5) (T := L.tabs) (t := fun E => tCall (sp_read_kinds S) [] E (tCons (tVar 2) (tCons (tVar 1) tNil))) S M rfl L.kinds.T rfl L.i3 L.u3 (hr.mono (by decide)) (lamS_by (sc := defScope (top 55)) (by decide +kernel)) rfl (fun _ _ _ _ _ => rfl) (fun A outer s H E f c hr2 => (pe_call (ok_read_kinds S) (hr2.mono (by decide)) rfl S.read_kinds.m S.read_kinds.F.kp S.read_kinds.b .nil (passes_call (takes_of rfl rfl rfl rfl) (fun _ _ _ _ h => h)) (pa_cons (pv 2) (pa_cons (pv 1) pa_nil))))) (pe_call (ok__law_kinds_read S) (hr.mono (by decide)) rfl S._law_kinds_read.m S._law_kinds_read.F.kp S._law_kinds_read.b .nil pass0 (pa_cons (pv 2) (pa_cons (pv 1) pa_nil))) (nomark _)))))))), ?_⟩
    walk_at "sx"
    refine ⟨g, b0, b1, b2, 7, rfl, hg, by decide, by decide, fun r x1 y1 z1 h0 h1 => ⟨r, rfl, ?_⟩⟩
    obtain ⟨n, rfl⟩ := Int.eq_ofNat_of_zero_le h0
    have e1 : Bg g H (upd H g (.lst [.int x1, .int y1, .int z1])) := Bg.put
    have hb1 : IsBag (upd H g (.lst [.int x1, .int y1, .int z1])) g := ⟨_, _, _, upd_same⟩
    generalize upd H g (.lst [.int x1, .int y1, .int z1]) = H1 at e1 hb1
    refine ⟨fun σ' H' => ∃ l, Bg g H H' ∧ IsBag H' g ∧ List.length l ≤ 1000 ∧ σ' = [some (.ref g), some (.int ((1 + n : Nat) : Int)), some (tx l), none], ?_, ?_⟩
    · walk_at "sx"
      rw [tLc_eq]
      unfold iRng1
      walk_at "sx"
      refine ⟨by omega, by omega, ?_⟩
      have en : (1 + (n : Int)).toNat = 1 + n := by omega
      rw [en]
      refine lc_bag (J := Itr 0 (1 + n)) (b := g) (fun y => ∃ m : Int, y = .int m ∧ isI m = true) (fun R h => h) (itR (lo := 0) (n := 1 + n)) hb1 (fun _ _ => True.intro) (by rw [List.length_map, List.length_range]; omega) (fun i x H' Ny hx e hb2 hy => ?_) (fun D H' ys hD e2 hb2 hDD hyl hys => ?_)
      · walk_at "sx"
        exact ⟨g, rfl, hb2, fun m H3 e3 hb3 hm => hy _ _ e3 hb3 ⟨m, rfl, hm⟩⟩
      · obtain ⟨ms, rfl, hms⟩ := ints_of hys
        rw [List.length_map, List.length_map, List.length_range] at hyl
        refine ⟨D, rfl, _, .inl ⟨SqL.of hDD, fun q hq => ⟨q, ms, rfl, upd_same, by omega, hms, fun l H3 e3 hl => ?_⟩⟩⟩
        have e4 := (Same.new (o := .tup (ms.map V.int)) hq).trans e3
        exact ⟨(e1.trans e2).trans (Bg.same e4), hb2.same e4, l, hl, rfl, rfl⟩
    rintro σ' H2 ⟨l, e2, hb2, hl, rfl⟩
    refine ⟨fun σ' H' => ∃ l, Bg g H H' ∧ IsBag H' g ∧ List.length l ≤ 1100 ∧ σ' = [some (.ref g), some (.int ((1 + n : Nat) : Int)), some (tx l), none], ?_, ?_⟩
    · obtain ⟨c0, c1, c2, hg2⟩ := hb2
      walk_at "sx"
      refine ⟨g, c0, c1, c2, 4, rfl, hg2, by decide, by decide, fun r x2 y2 z2 h2 h3 => ?_⟩
      walk_at "sx"
      have hbig : isI ((10 : Int) ^ Int.toNat 60 - 1) = true := by decide
      obtain ⟨t1, t2⟩ := text_len hbig
      have e3 : Bg g H (upd H2 g (.lst [.int x2, .int y2, .int z2])) := e2.trans Bg.put
      have hb3 : IsBag (upd H2 g (.lst [.int x2, .int y2, .int z2])) g := ⟨_, _, _, upd_same⟩
      have hg3 : upd H2 g (.lst [.int x2, .int y2, .int z2]) g = some (.lst [.int x2, .int y2, .int z2]) := upd_same
      generalize upd H2 g (.lst [.int x2, .int y2, .int z2]) = H3 at e3 hb3 hg3
      generalize Str.ofString (toString ((10 : Int) ^ Int.toNat 60 - 1)) = za at t1 ⊢
      refine ⟨fun _ => ⟨sz_of (by omega), ⟨by decide, by decide, by decide⟩, t2, ?_, ?_, g, x2, y2, z2, _, rfl, hg3, by omega, by omega, fun r2 x3 y3 z3 h4 h5 => ⟨r2, rfl, ?_⟩⟩, fun _ => ⟨e3, hb3, by omega⟩⟩
      · simp only [len_tx, List.length_append, List.length_cons, List.length_nil]
        exact sz_of (by omega)
      · simp only [app_len, len_tx, List.length_append, List.length_cons, List.length_nil]
        exact sz_of (by omega)
      · have hi : isI r2 = true := decide_eq_true ⟨by omega, by omega⟩
        obtain ⟨t3, t4⟩ := text_len hi
        have t5 : (Str.ofString (toString r2)).length ≤ 1 := PyProof.Rows.toString_length_le h4 (by decide) (by omega)
        generalize Str.ofString (toString r2) = zi at t5 ⊢
        refine ⟨t4, ?_, ?_, e3.trans Bg.put, ⟨_, _, _, upd_same⟩, ex_tx ?_⟩
        · simp only [app_len, len_tx, len1, List.length_append, List.length_cons, List.length_nil]
          exact sz_of (by omega)
        · simp only [app_len, len_tx, len1, List.length_append, List.length_cons, List.length_nil]
          exact sz_of (by omega)
        · simp only [app_len, len_tx, len1, List.length_append, List.length_cons, List.length_nil]
          omega
    rintro σ' H3 ⟨l, e3, hb3, hl3, rfl⟩
    refine ⟨fun σ' H' => ∃ l o3, Bg g H H' ∧ IsBag H' g ∧ List.length l ≤ 1222 ∧ σ' = [some (.ref g), some (.int ((1 + n : Nat) : Int)), some (tx l), o3], ?_, ?_⟩
    · refine near_loop (fun σ H' R h => ?_) hb3 (by omega) fun l' o3 H' e4 hb4 hl4 => ⟨l', o3, e3.trans e4, hb4, by omega, rfl⟩
      walk_at "sx"
      refine ⟨_, _, rfl, rfl, by decide, by decide, by decide, by decide, h _ ?_ (by simp) (show 15 ≤ 1000 by decide)⟩
      repeat' first
        | exact SG.nil
        | refine SG.cons (by decide) ?_
        | refine SG.consS (by rw [rep_size]; decide) ?_
    rintro σ' H4 ⟨l, o3, e4, hb4, hl4, rfl⟩
    walk_at "sx"
    refine ⟨Tabs.bg hT ⟨b0, b1, b2, hg⟩ e4, fun H5 x5 T5 => ?_⟩
    have hb6 := hb4.ext x5
    have e6 := (BgN.of e4).trans (BgN.ext x5)
    refine ⟨_, rfl, _, rfl, met_readK M (by omega) (by omega) (by omega) fun p H7 e7 hp hp7 => ?_⟩
    refine ⟨l, 1 + n, rfl, by omega, by omega, by omega, fun q H8 e8 hq hq8 => eq_oc (lay_kindsOc _ _) (hp7.go e8) hq8 ?_⟩
    exact k H8 ((e6.trans (BgN.same e7)).trans (BgN.same e8)) ((hb6.same e7).same e8) ((T5.ext e7).ext e8)
end
end Tx

set_option maxRecDepth 100000
set_option maxHeartbeats 2000000
namespace Tx
open PySem PySem.Spec PyProof.Rows L2
local macro_rules | `(tactic| walk_at "sx") => `(tactic| simp only [cxK, tSeq, tIfS, tTest, tOp, tUn, tSl, tVar, tPart, tNoPart, tC, tRet, tRetN, tNext, tAsg, tPar, tPar3, tAug, tDrop, tB, tAnd, tOr, tNot, tAndV, tOrV, tNotV, tIf, tChain, tCons, tNil, tTup, tLst, tCall, tCB, tBM, tBM0, gName, gCons, gNil, gTup, rNe, rEq, rI0, rI, rU, rSlS, ipI, tRaiseErr, tMkErr, rAppend, tLstRg, tRg1, tRg2, L2.start, List.map_cons, List.map_nil, List.length_cons, List.length_nil, List.cons_append, List.nil_append, List.append_nil, List.getElem?_cons_zero, List.getElem?_cons_succ, List.set_cons_zero, List.set_cons_succ, Option.some.injEq, V.int.injEq, V.str.injEq, V.bl.injEq, V.ref.injEq, List.cons.injEq, exists_eq_left, exists_eq_left', exists_eq_right', exists_and_left, exists_and_right, true_and, and_true, Nat.reduceAdd, Nat.reduceSub, Nat.zero_add, List.replicate_zero, List.replicate_succ, ite_d, ite_nd, ite_b, scal, len_tx, tl_tx, eq_tx, app_tx, cut_nat, cut_to, cut_from, cut_t1, cut_t2, cut_t3, one_at, none_at, two_at, take1, take2, dr0, dr1, forall_eq', forall_eq, nc1, nc2, nc3, nca, Int.natCast_pos, Int.natCast_eq_zero, Bool.not_eq_true', Bool.not_eq_false', decide_eq_true_eq, decide_eq_false_iff_not, Bool.not_true, Bool.not_false, Decidable.not_not, WE, ex2, ex3, Nat.add_sub_add_left, Int.ofNat_lt, Int.natCast_inj, if_true, if_false, Bool.true_eq_false, Bool.false_eq_true, eq_self_iff_true, Nat.add_sub_cancel_left, Nat.add_sub_cancel, imp_false, not_false_eq_true, not_true_eq_false, forall_const, exists_and_self, reduceCtorEq, false_and, and_false, exists_false, List.cons_ne_nil, wipe, List.foldr_cons, List.foldr_nil, List.foldl_cons, List.foldl_nil, tYes, tCKw, tM1, gSub, tAugS, lit_e, lit_10, lit_32, lit_32_32, lit_32_43_32, lit_32_43_32_91_49_93, lit_32_45_32, lit_40, lit_40_41, lit_40_41_40_41, lit_40_48_32_49, lit_40_48_32_49_41, lit_40_48_32_49_41_40_50_32_49_41, lit_40_48_41, lit_41, lit_43, lit_44, lit_44_44, lit_44_51, lit_45, lit_45_48, lit_45_48_91_49_93, lit_48, lit_48_48, lit_48_49, lit_48_49_50_51_52_53_54_55_56_57, lit_49, lit_49_44_44_50, lit_50, lit_50_91_48_93_32_43_91_49_93, lit_57, lit_91, lit_91_48_49_93, lit_91_48_93, lit_91_50_93, lit_93, lit_107_105_110_100_115, lit_109_111_118_101, lit_112_97_114_115_101, lit_114_111_119, lit_116_111_108_100, lit_120])
local macro_rules | `(tactic| walk_at "sl") => `(tactic| simp only [lit_e, lit_10, lit_32, lit_32_32, lit_32_43_32, lit_32_43_32_91_49_93, lit_32_45_32, lit_40, lit_40_41, lit_40_41_40_41, lit_40_48_32_49, lit_40_48_32_49_41, lit_40_48_32_49_41_40_50_32_49_41, lit_40_48_41, lit_41, lit_43, lit_44, lit_44_44, lit_44_51, lit_45, lit_45_48, lit_45_48_91_49_93, lit_48, lit_48_48, lit_48_49, lit_48_49_50_51_52_53_54_55_56_57, lit_49, lit_49_44_44_50, lit_50, lit_50_91_48_93_32_43_91_49_93, lit_57, lit_91, lit_91_48_49_93, lit_91_48_93, lit_91_50_93, lit_93, lit_107_105_110_100_115, lit_109_111_118_101, lit_112_97_114_115_101, lit_114_111_119, lit_116_111_108_100, lit_120])
section
variable {w : World} {K : PySem.W.Frag} {mg : Str → Option Value} {base : Heap}
end
open LamX
def ocK : Oc → Nat × Nat × List Nat × List Int
  | .parse e => (0, e, [], [])
  | .own s => (1, 0, s, [])
  | .told f => (2, 0, [], f)
theorem ocK_inj {a b : Oc} (h : ocK a = ocK b) : a = b := by
  cases a <;> cases b <;> simp_all [ocK]
section
variable {w : World} {K : PySem.W.Frag} {mg : Str → Option Value} {base : Heap}
theorem OcAt.ext {H H' : Hp} {p : Addr} {o : Oc} (h : OcAt H p o) (e : ExtN H H') : OcAt H' p o := by
  cases o with
  | parse i => exact e _ _ h fun ps q => by cases q
  | own s => exact e _ _ h fun ps q => by cases q
  | told f =>
    obtain ⟨q, h1, h2⟩ := h
    exact ⟨q, e _ _ h1 (fun ps q => by cases q), e _ _ h2 (fun ps q => by cases q)⟩
theorem OcAt.mut {H : Hp} {p f : Addr} {o : Oc} {xs ys : List V} (h : OcAt H p o) (hf : H f = some (.lst xs)) : OcAt (upd H f (.lst ys)) p o := by
  have ne : ∀ {a : Addr} {vs : List V}, H a = some (.tup vs) → upd H f (.lst ys) a = some (.tup vs) := fun h' => by
    rw [upd_ne (ne_of h' hf (by intro z; cases z))]
    exact h'
  cases o with
  | parse i => exact ne h
  | own s => exact ne h
  | told f =>
    obtain ⟨q, h1, h2⟩ := h
    exact ⟨q, ne h1, ne h2⟩
/-- the answers at f -/
def Told (H : Hp) (f : Addr) (os : List Oc) : Prop := ∃ ps : List V, H f = some (.lst ps) ∧ Paired (fun v o => ∃ p, v = .ref p ∧ OcAt H p o) ps os
theorem Told.go {H H' : Hp} {f : Addr} {os : List Oc} (h : Told H f os) (e : Same H H') : Told H' f os := by
  obtain ⟨ps, h1, h2⟩ := h
  exact ⟨ps, e _ _ h1, Paired.mapP h2 fun v o ⟨p, hp, hq⟩ => ⟨p, hp, hq.go e⟩⟩
theorem Told.ext {H H' : Hp} {f : Addr} {os : List Oc} (h : Told H f os) (e : ExtN H H') : Told H' f os := by
  obtain ⟨ps, h1, h2⟩ := h
  exact ⟨ps, e _ _ h1 (fun ps q => by cases q), Paired.mapP h2 fun v o ⟨p, hp, hq⟩ => ⟨p, hp, hq.ext e⟩⟩
theorem TabS.mut {H : Hp} {P : Addr} {q : Str} {f : Addr} {xs ys : List V} (t : TabS H P q) (hf : H f = some (.lst xs)) : TabS (upd H f (.lst ys)) P q := by
  obtain ⟨ps, h1, h2, h3⟩ := t
  refine ⟨ps, by rw [upd_ne (ne_of h1 hf (by intro z; cases z))]; exact h1, h2, fun pos cv hc => ?_⟩
  obtain ⟨c, e1, e2⟩ := h3 pos cv hc
  exact ⟨c, e1, by rw [upd_ne (ne_of e2 hf (by intro z; cases z))]; exact e2⟩
theorem Told.snoc {H : Hp} {f p : Addr} {os : List Oc} {o : Oc} {ps : List V} (hf : H f = some (.lst ps)) (h : Paired (fun v o => ∃ p, v = .ref p ∧ OcAt H p o) ps os) (ho : OcAt H p o) : Told (upd H f (.lst (ps ++ [.ref p]))) f (os ++ [o]) :=
  ⟨_, upd_same, PySem.Paired.snoc (Paired.mapP h fun v o ⟨p, hp, hq⟩ => ⟨p, hp, hq.mut hf⟩) ⟨p, rfl, ho.mut hf⟩⟩
theorem Told.dp {K : PySem.W.Frag} {H : Hp} {ps : List V} : ∀ {os : List Oc}, Paired (fun v o => ∃ p, v = .ref p ∧ OcAt H p o) ps os → DpAll K H ps (os.map ocD) := by
  intro os h
  induction h with
  | nil => exact .nil
  | cons h t ih =>
    obtain ⟨p, rfl, hp⟩ := h
    exact .cons hp.dp ih
section
variable {K : PySem.W.Frag} {mg : Str → Option Value} {base : Heap}
theorem val_0 : moveOc 4 [40, 48, 32, 49, 41, 40, 50, 32, 49, 41] = .own [109, 111, 118, 101] := ocK_inj (by decide +kernel)
theorem val_1 : rowOc [49, 44, 44, 50] = .parse 2 := ocK_inj (by decide +kernel)
theorem val_2 : kindsOc 2 [50, 91, 48, 93, 32, 43, 91, 49, 93] = .parse 6 := ocK_inj (by decide +kernel)
theorem val_3 : moveOc 2 [40, 48, 32, 49] = .parse 4 := ocK_inj (by decide +kernel)
theorem val_4 : moveOc 2 [40, 41, 40, 41] = .parse 2 := ocK_inj (by decide +kernel)
theorem val_5 : kindsOc 2 [45, 48, 91, 49, 93] = .parse 1 := ocK_inj (by decide +kernel)
theorem val_6 : kindsOc 2 [91, 50, 93] = .own [107, 105, 110, 100, 115] := ocK_inj (by decide +kernel)
theorem val_7 : rowOc [48, 49] = .parse 1 := ocK_inj (by decide +kernel)
theorem val_8 : moveOc 1 [40, 48, 41] = .parse 2 := ocK_inj (by decide +kernel)
/-- told.append(_law_met(..)) -/
theorem told_step {S : Pg K mg} {L : Lg K mg base} {t : XK → TE} {D : Ends} {σ : L2.St} {H : Hp} {f : Addr} {os : List Oc} (o : Oc) (h4 : σ[4]? = some (some (.ref f))) (hT : Tabs L.tabs H) (ht : Told H f os) (hl : os.length ≤ 1000)
    (hr : ∀ H5 Q5, okOc H5 Q5 o → t (EchM S Q5) σ H5 (QtM Q5)) (k : ∀ H', Tabs L.tabs H' → Told H' f (os ++ [o]) → D.nx σ H') :
    tDrop (tBM K "list" rAppend (tVar 4) (tCons (tLam L.tabs (TTmet K (metL S)) t) tNil)) D σ H := by
  obtain ⟨ps, h1, h2⟩ := ht
  refine ⟨_, h4, Or.inl ⟨rfl, _, Or.inl (Or.inl h1)⟩, hT, fun H5 x5 T5 => ?_⟩
  refine hr H5 _ fun p H6 e6 hp ho => ?_
  have h6 : H6 f = some (.lst ps) := e6 _ _ (x5 _ _ h1 fun ps q => by cases q)
  have h26 := Paired.mapP (Paired.mapP h2 fun v o ⟨p, hp, hq⟩ => (⟨p, hp, hq.ext x5⟩ : ∃ p, v = V.ref p ∧ OcAt H5 p o)) fun v o ⟨p, hp, hq⟩ => (⟨p, hp, hq.go e6⟩ : ∃ p, v = V.ref p ∧ OcAt H6 p o)
  have hln : ps.length = os.length := Paired.length h2
  refine ⟨f, ps, .ref p, rfl, rfl, h6, sz_lt (by omega), ?_⟩
  exact k _ (fun q hq => TabS.mut ((T5.ext e6) q hq) h6) (Told.snoc h6 h26 ho)
end
def spL (K : PySem.W.Frag) (T : List (Addr × Str)) : Sp := fun vs H Q _ => ∃ (a : Addr) (ns : List Int), vs = [.ref a] ∧ SqL K H a (ns.map V.int) ∧ ns.length ≤ 1000 ∧ Tabs T H ∧ ∀ H', Q (.bl true) H'
def sp_law (L : Lg K mg base) : Sp := spL K L.tabs
theorem ok_law (S : Pg K mg) (M : MetOk S) (L : Lg K mg base) : FnOk prog w K mg base CX0 9 L.law.f L.law.fd ["script"] (sp_law L) := by
  refine L.law.F.ok sc_law (fun vs H Q E h => ?_) (fun A outer s H vs Q E hr h => ?_)
  · obtain ⟨a, ns, rfl, _⟩ := h
    rfl
  · obtain ⟨a, ns, rfl, ha, hl, hT, k⟩ := h
    refine ⟨_, (pss_cons (ps_for PassesOwn.never rfl (pi_range1 (by rfl) S.b_range (pa_cons (pe_callB (call_max2 rfl) (by rfl) S.b_max (by decide +kernel) (pa_cons pe_int (pa_cons (pe_callB (call_min2 rfl) (by rfl) S.b_min (by decide +kernel) (pa_cons pe_int (pa_cons (pe_callB call_len_seq (by rfl) S.b_len (by decide +kernel) (pa_cons (pv 0) pa_nil)) pa_nil))) pa_nil))) pa_nil)) (pg_name (i := 1) sc_law.nd rfl (Or.inl rfl))
    (pss_cons (ps_set (i := 2) sc_law.nd rfl (Or.inl rfl) (pe_call (ok__law_bag S) (hr.mono (by decide)) rfl S._law_bag.m S._law_bag.F.kp S._law_bag.b .nil pass0 (pa_cons (pv 0) (pa_cons (pv 1) pa_nil))))
    (pss_one (ps_for PassesOwn.never rfl (pi_range1 (by rfl) S.b_range (pa_cons pe_int pa_nil)) (pg_name (i := 3) sc_law.nd rfl (Or.inl rfl))
      (pss_one (ps_if (PW.pt (pw_or (pt_not (pt_val (pe_call (ok__law_moves_right S M L) (hr.mono (by decide)) rfl L.moves.m L.moves.kp L.moves.b .nil pass0 (pa_cons (pv 2) pa_nil)))) (pw_or (pt_not (pt_val (pe_call (ok__law_rows_right S M L) (hr.mono (by decide)) rfl L.rows.m L.rows.kp L.rows.b .nil pass0 (pa_cons (pv 2) pa_nil)))) (pw_or1 (pt_not (pt_val (pe_call (ok__law_kinds_right S M L) (hr.mono (by decide)) rfl L.kinds.m L.kinds.kp L.kinds.b .nil pass0 (pa_cons (pv 2) pa_nil))))))))
        (pss_one (ps_ret pe_bl))
        pss_nil))))))
  (Evl.pss_cut (ps_set (i := 4) sc_law.nd rfl (Or.inl rfl) (pe_lst (pa_cons (pe_met rfl rfl (k := 5) (T := L.tabs) (t := fun E => tCall (sp_read_move S) [] E (tCons (tC (V.str (Str.ofString "(0 1)(2 1)"))) (tCons (tC (V.int 4)) tNil))) S M rfl L.law.T rfl L.i4 L.u4 (hr.mono (by decide)) (lamS_by (sc := defScope (top 56)) (by decide +kernel)) rfl (fun _ _ _ _ _ => rfl) (fun A outer s H E f c hr2 => (pe_call (ok_read_move S) (hr2.mono (by decide)) rfl S.read_move.m S.read_move.F.kp S.read_move.b .nil (passes_call (takes_of rfl rfl rfl rfl) (fun _ _ _ _ h => h)) (pa_cons pe_str (pa_cons pe_int pa_nil))))) pa_nil)))
  (Evl.pss_cut (ps_expr (pe_bm PySem.F.plainAttrs_list PySem.F.slot_list_append PySem.F.type_list_append mt_append (pv 4) (pa_cons (pe_met rfl rfl (k := 5) (T := L.tabs) (t := fun E => tCall (sp_read_row S) [] E (tCons (tC (V.str (Str.ofString "1,,2"))) tNil)) S M rfl L.law.T rfl L.i4 L.u4 (hr.mono (by decide)) (lamS_by (sc := defScope (top 56)) (by decide +kernel)) rfl (fun _ _ _ _ _ => rfl) (fun A outer s H E f c hr2 => (pe_call (ok_read_row S) (hr2.mono (by decide)) rfl S.read_row.m S.read_row.F.kp S.read_row.b .nil (passes_call (takes_of rfl rfl rfl rfl) (fun _ _ _ _ h => h)) (pa_cons pe_str pa_nil)))) pa_nil)))
  (Evl.pss_cut (ps_expr (pe_bm PySem.F.plainAttrs_list PySem.F.slot_list_append PySem.F.type_list_append mt_append (pv 4) (pa_cons (pe_met rfl rfl (k := 5) (T := L.tabs) (t := fun E => tCall (sp_read_kinds S) [] E (tCons (tC (V.str (Str.ofString "2[0] +[1]"))) (tCons (tC (V.int 2)) tNil))) S M rfl L.law.T rfl L.i4 L.u4 (hr.mono (by decide)) (lamS_by (sc := defScope (top 56)) (by decide +kernel)) rfl (fun _ _ _ _ _ => rfl) (fun A outer s H E f c hr2 => (pe_call (ok_read_kinds S) (hr2.mono (by decide)) rfl S.read_kinds.m S.read_kinds.F.kp S.read_kinds.b .nil (passes_call (takes_of rfl rfl rfl rfl) (fun _ _ _ _ h => h)) (pa_cons pe_str (pa_cons pe_int pa_nil))))) pa_nil)))
  (Evl.pss_cut (ps_expr (pe_bm PySem.F.plainAttrs_list PySem.F.slot_list_append PySem.F.type_list_append mt_append (pv 4) (pa_cons (pe_met rfl rfl (k := 5) (T := L.tabs) (t := fun E => tCall (sp_read_move S) [] E (tCons (tC (V.str (Str.ofString "(0 1"))) (tCons (tC (V.int 2)) tNil))) S M rfl L.law.T rfl L.i4 L.u4 (hr.mono (by decide)) (lamS_by (sc := defScope (top 56)) (by decide +kernel)) rfl (fun _ _ _ _ _ => rfl) (fun A outer s H E f c hr2 => (pe_call (ok_read_move S) (hr2.mono (by decide)) rfl S.read_move.m S.read_move.F.kp S.read_move.b .nil (passes_call (takes_of rfl rfl rfl rfl) (fun _ _ _ _ h => h)) (pa_cons pe_str (pa_cons pe_int pa_nil))))) pa_nil)))
  (Evl.pss_cut (ps_expr (pe_bm PySem.F.plainAttrs_list PySem.F.slot_list_append PySem.F.type_list_append mt_append (pv 4) (pa_cons (pe_met rfl rfl (k := 5) (T := L.tabs) (t := fun E => tCall (sp_read_move S) [] E (tCons (tC (V.str (Str.ofString "()()"))) (tCons (tC (V.int 2)) tNil))) S M rfl L.law.T rfl L.i4 L.u4 (hr.mono (by decide)) (lamS_by (sc := defScope (top 56)) (by decide +kernel)) rfl (fun _ _ _ _ _ => rfl) (fun A outer s H E f c hr2 => (pe_call (ok_read_move S) (hr2.mono (by decide)) rfl S.read_move.m S.read_move.F.kp S.read_move.b .nil (passes_call (takes_of rfl rfl rfl rfl) (fun _ _ _ _ h => h)) (pa_cons pe_str (pa_cons pe_int pa_nil))))) pa_nil)))
  (Evl.pss_cut (ps_expr (pe_bm PySem.F.plainAttrs_list PySem.F.slot_list_append PySem.F.type_list_append mt_append (pv 4) (pa_cons (pe_met rfl rfl (k := 5) (T := L.tabs) (t := fun E => tCall (sp_read_kinds S) [] E (tCons (tC (V.str (Str.ofString "-0[1]"))) (tCons (tC (V.int 2)) tNil))) S M rfl L.law.T rfl L.i4 L.u4 (hr.mono (by decide)) (lamS_by (sc := defScope (top 56)) (by decide +kernel)) rfl (fun _ _ _ _ _ => rfl) (fun A outer s H E f c hr2 => (pe_call (ok_read_kinds S) (hr2.mono (by decide)) rfl S.read_kinds.m S.read_kinds.F.kp S.read_kinds.b .nil (passes_call (takes_of rfl rfl rfl rfl) (fun _ _ _ _ h => h)) (pa_cons pe_str (pa_cons pe_int pa_nil))))) pa_nil)))
  (Evl.pss_cut (ps_expr (pe_bm PySem.F.plainAttrs_list PySem.F.slot_list_append PySem.F.type_list_append mt_append (pv 4) (pa_cons (pe_met rfl rfl (k := 5) (T := L.tabs) (t := fun E => tCall (sp_read_kinds S) [] E (tCons (tC (V.str (Str.ofString "[2]"))) (tCons (tC (V.int 2)) tNil))) S M rfl L.law.T rfl L.i4 L.u4 (hr.mono (by decide)) (lamS_by (sc := defScope (top 56)) (by decide +kernel)) rfl (fun _ _ _ _ _ => rfl) (fun A outer s H E f c hr2 => (pe_call (ok_read_kinds S) (hr2.mono (by decide)) rfl S.read_kinds.m S.read_kinds.F.kp S.read_kinds.b .nil (passes_call (takes_of rfl rfl rfl rfl) (fun _ _ _ _ h => h)) (pa_cons pe_str (pa_cons pe_int pa_nil))))) pa_nil)))
  (Evl.pss_cut (ps_expr (pe_bm PySem.F.plainAttrs_list PySem.F.slot_list_append PySem.F.type_list_append mt_append (pv 4) (pa_cons (pe_met rfl rfl (k := 5) (T := L.tabs) (t := fun E => tCall (sp_read_row S) [] E (tCons (tC (V.str (Str.ofString "01"))) tNil)) S M rfl L.law.T rfl L.i4 L.u4 (hr.mono (by decide)) (lamS_by (sc := defScope (top 56)) (by decide +kernel)) rfl (fun _ _ _ _ _ => rfl) (fun A outer s H E f c hr2 => (pe_call (ok_read_row S) (hr2.mono (by decide)) rfl S.read_row.m S.read_row.F.kp S.read_row.b .nil (passes_call (takes_of rfl rfl rfl rfl) (fun _ _ _ _ h => h)) (pa_cons pe_str pa_nil)))) pa_nil)))
  (Evl.pss_cut (ps_expr (pe_bm PySem.F.plainAttrs_list PySem.F.slot_list_append PySem.F.type_list_append mt_append (pv 4) (pa_cons (pe_met rfl rfl (k := 5) (T := L.tabs) (t := fun E => tCall (sp_read_move S) [] E (tCons (tC (V.str (Str.ofString "(0)"))) (tCons (tC (V.int 1)) tNil))) S M rfl L.law.T rfl L.i4 L.u4 (hr.mono (by decide)) (lamS_by (sc := defScope (top 56)) (by decide +kernel)) rfl (fun _ _ _ _ _ => rfl) (fun A outer s H E f c hr2 => (pe_call (ok_read_move S) (hr2.mono (by decide)) rfl S.read_move.m S.read_move.F.kp S.read_move.b .nil (passes_call (takes_of rfl rfl rfl rfl) (fun _ _ _ _ h => h)) (pa_cons pe_str (pa_cons pe_int pa_nil))))) pa_nil)))
  (Evl.pss_cut (ps_set (i := 5) sc_law.nd rfl (Or.inl rfl) (pe_lst (pa_cons (pe_tup (pa_cons pe_str pa_nil)) (pa_cons (pe_tup (pa_cons pe_str (pa_cons pe_int pa_nil))) (pa_cons (pe_tup (pa_cons pe_str (pa_cons pe_int pa_nil))) (pa_cons (pe_tup (pa_cons pe_str (pa_cons pe_int pa_nil))) (pa_cons (pe_tup (pa_cons pe_str (pa_cons pe_int pa_nil))) (pa_cons (pe_tup (pa_cons pe_str (pa_cons pe_int pa_nil))) (pa_cons (pe_tup (pa_cons pe_str pa_nil)) pa_nil)))))))))
  (pss_one (ps_ret (pe_cmpR (op_eqD hr.units) (pv 4) (pe_op op_cat (pv 5) (pe_lst (pa_cons (pe_tup (pa_cons pe_str (pa_cons pe_int pa_nil))) (pa_cons (pe_tup (pa_cons pe_str (pa_cons pe_int pa_nil))) pa_nil)))) (nomark _))))))))))))))), ?_⟩
    walk_at "sx"
    rw [tFor_eq]
    unfold iRng1
    walk_at "sx"
    refine ⟨_, .inl ha, ?_⟩
    rw [List.length_map]
    have hN : (if (if (ns.length : Int) < 2 then (ns.length : Int) else 2) > 1 then (if (ns.length : Int) < 2 then (ns.length : Int) else 2) else 1).toNat ≤ 2 ∧ -(2 ^ 62) ≤ (if (if (ns.length : Int) < 2 then (ns.length : Int) else 2) > 1 then (if (ns.length : Int) < 2 then (ns.length : Int) else 2) else 1) ∧ (if (if (ns.length : Int) < 2 then (ns.length : Int) else 2) > 1 then (if (ns.length : Int) < 2 then (ns.length : Int) else 2) else 1) < 2 ^ 62 := by
      split <;> split <;> omega
    obtain ⟨hN, hN1, hN2⟩ := hN
    refine ⟨hN1, hN2, ?_⟩
    generalize (if (if (ns.length : Int) < 2 then (ns.length : Int) else 2) > 1 then (if (ns.length : Int) < 2 then (ns.length : Int) else 2) else 1).toNat = N at hN ⊢
    refine for_it (J := Itr 0 N) (fun R h => h) (itR (lo := 0) (n := N)) (fun i σ H' => ∃ o1 o2 o3, SqL K H' a (ns.map V.int) ∧ Tabs L.tabs H' ∧ σ = [some (.ref a), o1, o2, o3, none, none]) ⟨_, _, _, ha, hT, rfl⟩ (fun _ _ _ _ _ => True.intro) ?_ ?_
    · rintro i x σ H1 hx ⟨o1, o2, o3, ha1, hT1, rfl⟩
      have hin := (List.getElem?_eq_some_iff.mp hx).1
      rw [List.length_map, List.length_range] at hin
      have hxi : x = V.int (i : Nat) := by
        rw [List.getElem?_map, List.getElem?_range hin] at hx
        have := (Option.some.inj hx).symm
        exact this.trans (show V.int (0 + ((i : Nat) : Int)) = _ by rw [Int.zero_add])
      subst hxi
      walk_at "sx"
      refine ⟨a, ns, i, rfl, ha1, hl, by omega, fun g H2 e2 hg0 hb2 => ?_⟩
      have keep : ∀ H3, BgN g H2 H3 → SqL K H3 a (ns.map V.int) := fun H3 e3 => by
        rcases ha1 with (h | ⟨u, h⟩) | h
        · exact .inl (.inl (e3 _ _ (ne_of_none h hg0) (fun ps q => by cases q) (e2 _ _ h)))
        · exact .inl (.inr ⟨u, e3 _ _ (ne_of_none h hg0) (fun ps q => by cases q) (e2 _ _ h)⟩)
        · exact .inr h
      walk_at "sx"
      refine for_it (J := Itr 0 (Int.toNat 6)) (fun R h => ⟨by decide, by decide, h⟩) (itR (lo := 0) (n := Int.toNat 6)) (fun i2 σ H' => ∃ o3, BgN g H2 H' ∧ IsBag H' g ∧ Tabs L.tabs H' ∧ σ = [some (.ref a), some (.int (i : Nat)), some (.ref g), o3, none, none]) ⟨_, BgN.same (Same.refl _), hb2, hT1.ext e2, rfl⟩ (fun _ _ _ _ _ => True.intro) ?_ ?_
      · rintro i2 x2 σ H3 hx2 ⟨o3, e3, hb3, hT3, rfl⟩
        walk_at "sx"
        refine ⟨g, rfl, hb3, hT3, fun H4 e4 hb4 hT4 => ?_⟩
        walk_at "sx"
        refine ⟨g, rfl, hb4, hT4, fun H5 e5 hb5 hT5 => ?_⟩
        walk_at "sx"
        refine ⟨g, rfl, hb5, hT5, fun H6 e6 hb6 hT6 => ?_⟩
        walk_at "sx"
        exact ⟨((e3.trans e4).trans e5).trans e6, hb6, hT6⟩
      · rintro σ H3 ⟨o3, e3, hb3, hT3, rfl⟩
        exact ⟨keep _ e3, hT3, _, _, _, rfl⟩
    rintro σ H1 ⟨o1, o2, o3, ha1, hT1, rfl⟩
    refine ⟨fun σ' H' => ∃ f, Tabs L.tabs H' ∧ Told H' f [.own [109, 111, 118, 101]] ∧ σ' = [some (.ref a), o1, o2, o3, some (.ref f), none], ?_, ?_⟩
    · refine ⟨hT1, fun H5 x5 T5 => ?_⟩
      refine met_readM M (l := [40, 48, 32, 49, 41, 40, 50, 32, 49, 41]) (p := 4) (by decide) (by decide) (by decide) ?_
      rw [val_0]
      intro p H6 e6 hp ho
      exact ⟨(show 1 ≤ sizeLine by decide), fun f hf => ⟨f, (T5.ext e6).ext (Same.new hf), ⟨[.ref p], upd_same, .cons ⟨p, rfl, ho.go (Same.new hf)⟩ .nil⟩, rfl⟩⟩
    rintro σ' H2 ⟨f, hT2, ht2, rfl⟩
    refine ⟨fun σ' H' => ∃ f, Tabs L.tabs H' ∧ Told H' f [.own [109, 111, 118, 101], .parse 2] ∧ σ' = [some (.ref a), o1, o2, o3, some (.ref f), none], ?_, ?_⟩
    · refine told_step (.parse 2) rfl hT2 ht2 (by decide) (fun H5 Q5 h => ?_) fun H' hT' ht' => ⟨f, hT', ht', rfl⟩
      rw [← val_1] at h
      exact met_readR M (l := [49, 44, 44, 50]) (by decide) h
    rintro σ' H2 ⟨f, hT2, ht2, rfl⟩
    refine ⟨fun σ' H' => ∃ f, Tabs L.tabs H' ∧ Told H' f [.own [109, 111, 118, 101], .parse 2, .parse 6] ∧ σ' = [some (.ref a), o1, o2, o3, some (.ref f), none], ?_, ?_⟩
    · refine told_step (.parse 6) rfl hT2 ht2 (by decide) (fun H5 Q5 h => ?_) fun H' hT' ht' => ⟨f, hT', ht', rfl⟩
      rw [← val_2] at h
      exact met_readK M (l := [50, 91, 48, 93, 32, 43, 91, 49, 93]) (n := 2) (by decide) (by decide) (by decide) h
    rintro σ' H2 ⟨f, hT2, ht2, rfl⟩
    refine ⟨fun σ' H' => ∃ f, Tabs L.tabs H' ∧ Told H' f [.own [109, 111, 118, 101], .parse 2, .parse 6, .parse 4] ∧ σ' = [some (.ref a), o1, o2, o3, some (.ref f), none], ?_, ?_⟩
    · refine told_step (.parse 4) rfl hT2 ht2 (by decide) (fun H5 Q5 h => ?_) fun H' hT' ht' => ⟨f, hT', ht', rfl⟩
      rw [← val_3] at h
      exact met_readM M (l := [40, 48, 32, 49]) (p := 2) (by decide) (by decide) (by decide) h
    rintro σ' H2 ⟨f, hT2, ht2, rfl⟩
    refine ⟨fun σ' H' => ∃ f, Tabs L.tabs H' ∧ Told H' f [.own [109, 111, 118, 101], .parse 2, .parse 6, .parse 4, .parse 2] ∧ σ' = [some (.ref a), o1, o2, o3, some (.ref f), none], ?_, ?_⟩
    · refine told_step (.parse 2) rfl hT2 ht2 (by decide) (fun H5 Q5 h => ?_) fun H' hT' ht' => ⟨f, hT', ht', rfl⟩
      rw [← val_4] at h
      exact met_readM M (l := [40, 41, 40, 41]) (p := 2) (by decide) (by decide) (by decide) h
    rintro σ' H2 ⟨f, hT2, ht2, rfl⟩
    refine ⟨fun σ' H' => ∃ f, Tabs L.tabs H' ∧ Told H' f [.own [109, 111, 118, 101], .parse 2, .parse 6, .parse 4, .parse 2, .parse 1] ∧ σ' = [some (.ref a), o1, o2, o3, some (.ref f), none], ?_, ?_⟩
    · refine told_step (.parse 1) rfl hT2 ht2 (by decide) (fun H5 Q5 h => ?_) fun H' hT' ht' => ⟨f, hT', ht', rfl⟩
      rw [← val_5] at h
      exact met_readK M (l := [45, 48, 91, 49, 93]) (n := 2) (by decide) (by decide) (by decide) h
    rintro σ' H2 ⟨f, hT2, ht2, rfl⟩
    refine ⟨fun σ' H' => ∃ f, Tabs L.tabs H' ∧ Told H' f [.own [109, 111, 118, 101], .parse 2, .parse 6, .parse 4, .parse 2, .parse 1, .own [107, 105, 110, 100, 115]] ∧ σ' = [some (.ref a), o1, o2, o3, some (.ref f), none], ?_, ?_⟩
    · refine told_step (.own [107, 105, 110, 100, 115]) rfl hT2 ht2 (by decide) (fun H5 Q5 h => ?_) fun H' hT' ht' => ⟨f, hT', ht', rfl⟩
      rw [← val_6] at h
      exact met_readK M (l := [91, 50, 93]) (n := 2) (by decide) (by decide) (by decide) h
    rintro σ' H2 ⟨f, hT2, ht2, rfl⟩
    refine ⟨fun σ' H' => ∃ f, Tabs L.tabs H' ∧ Told H' f [.own [109, 111, 118, 101], .parse 2, .parse 6, .parse 4, .parse 2, .parse 1, .own [107, 105, 110, 100, 115], .parse 1] ∧ σ' = [some (.ref a), o1, o2, o3, some (.ref f), none], ?_, ?_⟩
    · refine told_step (.parse 1) rfl hT2 ht2 (by decide) (fun H5 Q5 h => ?_) fun H' hT' ht' => ⟨f, hT', ht', rfl⟩
      rw [← val_7] at h
      exact met_readR M (l := [48, 49]) (by decide) h
    rintro σ' H2 ⟨f, hT2, ht2, rfl⟩
    refine ⟨fun σ' H' => ∃ f, Tabs L.tabs H' ∧ Told H' f [.own [109, 111, 118, 101], .parse 2, .parse 6, .parse 4, .parse 2, .parse 1, .own [107, 105, 110, 100, 115], .parse 1, .parse 2] ∧ σ' = [some (.ref a), o1, o2, o3, some (.ref f), none], ?_, ?_⟩
    · refine told_step (.parse 2) rfl hT2 ht2 (by decide) (fun H5 Q5 h => ?_) fun H' hT' ht' => ⟨f, hT', ht', rfl⟩
      rw [← val_8] at h
      exact met_readM M (l := [40, 48, 41]) (p := 1) (by decide) (by decide) (by decide) h
    rintro σ' H2 ⟨f, hT2, ht2, rfl⟩
    refine ⟨fun σ' H' => ∃ g, Told H' f [.own [109, 111, 118, 101], .parse 2, .parse 6, .parse 4, .parse 2, .parse 1, .own [107, 105, 110, 100, 115], .parse 1, .parse 2] ∧ Told H' g [.own [109, 111, 118, 101], .parse 2, .parse 6, .parse 4, .parse 2, .parse 1, .own [107, 105, 110, 100, 115]] ∧ σ' = [some (.ref a), o1, o2, o3, some (.ref f), some (.ref g)], ?_, ?_⟩
    · walk_at "sx"
      have ht20 := ht2
      refine ⟨by decide, fun p0 hp0 => ?_⟩
      have s0 : Same H2 (upd H2 p0 (.tup [tx [109, 111, 118, 101]])) := Same.new hp0
      have q0 : OcAt (upd H2 p0 (.tup [tx [109, 111, 118, 101]])) p0 (.own [109, 111, 118, 101]) := upd_same
      generalize upd H2 p0 (.tup [tx [109, 111, 118, 101]]) = G0 at s0 q0 ⊢
      refine ⟨by decide, fun p1 hp1 => ?_⟩
      have s1 : Same G0 (upd G0 p1 (.tup [tx [112, 97, 114, 115, 101], .int 2])) := Same.new hp1
      have q1 : OcAt (upd G0 p1 (.tup [tx [112, 97, 114, 115, 101], .int 2])) p1 (.parse 2) := upd_same
      generalize upd G0 p1 (.tup [tx [112, 97, 114, 115, 101], .int 2]) = G1 at s1 q1 ⊢
      refine ⟨by decide, fun p2 hp2 => ?_⟩
      have s2 : Same G1 (upd G1 p2 (.tup [tx [112, 97, 114, 115, 101], .int 6])) := Same.new hp2
      have q2 : OcAt (upd G1 p2 (.tup [tx [112, 97, 114, 115, 101], .int 6])) p2 (.parse 6) := upd_same
      generalize upd G1 p2 (.tup [tx [112, 97, 114, 115, 101], .int 6]) = G2 at s2 q2 ⊢
      refine ⟨by decide, fun p3 hp3 => ?_⟩
      have s3 : Same G2 (upd G2 p3 (.tup [tx [112, 97, 114, 115, 101], .int 4])) := Same.new hp3
      have q3 : OcAt (upd G2 p3 (.tup [tx [112, 97, 114, 115, 101], .int 4])) p3 (.parse 4) := upd_same
      generalize upd G2 p3 (.tup [tx [112, 97, 114, 115, 101], .int 4]) = G3 at s3 q3 ⊢
      refine ⟨by decide, fun p4 hp4 => ?_⟩
      have s4 : Same G3 (upd G3 p4 (.tup [tx [112, 97, 114, 115, 101], .int 2])) := Same.new hp4
      have q4 : OcAt (upd G3 p4 (.tup [tx [112, 97, 114, 115, 101], .int 2])) p4 (.parse 2) := upd_same
      generalize upd G3 p4 (.tup [tx [112, 97, 114, 115, 101], .int 2]) = G4 at s4 q4 ⊢
      refine ⟨by decide, fun p5 hp5 => ?_⟩
      have s5 : Same G4 (upd G4 p5 (.tup [tx [112, 97, 114, 115, 101], .int 1])) := Same.new hp5
      have q5 : OcAt (upd G4 p5 (.tup [tx [112, 97, 114, 115, 101], .int 1])) p5 (.parse 1) := upd_same
      generalize upd G4 p5 (.tup [tx [112, 97, 114, 115, 101], .int 1]) = G5 at s5 q5 ⊢
      refine ⟨by decide, fun p6 hp6 => ?_⟩
      have s6 : Same G5 (upd G5 p6 (.tup [tx [107, 105, 110, 100, 115]])) := Same.new hp6
      have q6 : OcAt (upd G5 p6 (.tup [tx [107, 105, 110, 100, 115]])) p6 (.own [107, 105, 110, 100, 115]) := upd_same
      generalize upd G5 p6 (.tup [tx [107, 105, 110, 100, 115]]) = G6 at s6 q6 ⊢
      refine ⟨by decide, fun g hg => ?_⟩
      have sg : Same G6 (upd G6 g (.lst [.ref p0, .ref p1, .ref p2, .ref p3, .ref p4, .ref p5, .ref p6])) := Same.new hg
      have sall : Same H2 (upd G6 g (.lst [.ref p0, .ref p1, .ref p2, .ref p3, .ref p4, .ref p5, .ref p6])) := ((((((s0.trans s1).trans s2).trans s3).trans s4).trans s5).trans s6).trans sg
      exact ⟨ht20.go sall, ⟨_, upd_same, .cons ⟨p0, rfl, ((((((q0.go s1).go s2).go s3).go s4).go s5).go s6).go sg⟩ (.cons ⟨p1, rfl, (((((q1.go s2).go s3).go s4).go s5).go s6).go sg⟩ (.cons ⟨p2, rfl, ((((q2.go s3).go s4).go s5).go s6).go sg⟩ (.cons ⟨p3, rfl, (((q3.go s4).go s5).go s6).go sg⟩ (.cons ⟨p4, rfl, ((q4.go s5).go s6).go sg⟩ (.cons ⟨p5, rfl, (q5.go s6).go sg⟩ (.cons ⟨p6, rfl, q6.go sg⟩ (.nil)))))))⟩⟩
    rintro σ' H3 ⟨g, ht3, hd3, rfl⟩
    walk_at "sx"
    refine ⟨by decide, fun p0 hp0 => ?_⟩
    have s0 : Same H3 (upd H3 p0 (.tup [tx [112, 97, 114, 115, 101], .int 1])) := Same.new hp0
    have q0 : OcAt (upd H3 p0 (.tup [tx [112, 97, 114, 115, 101], .int 1])) p0 (.parse 1) := upd_same
    generalize upd H3 p0 (.tup [tx [112, 97, 114, 115, 101], .int 1]) = G0 at s0 q0 ⊢
    refine ⟨by decide, fun p1 hp1 => ?_⟩
    have s1 : Same G0 (upd G0 p1 (.tup [tx [112, 97, 114, 115, 101], .int 2])) := Same.new hp1
    have q1 : OcAt (upd G0 p1 (.tup [tx [112, 97, 114, 115, 101], .int 2])) p1 (.parse 2) := upd_same
    generalize upd G0 p1 (.tup [tx [112, 97, 114, 115, 101], .int 2]) = G1 at s1 q1 ⊢
    refine ⟨by decide, fun p2 hp2 => ?_⟩
    have s2 : Same G1 (upd G1 p2 (.lst [.ref p0, .ref p1])) := Same.new hp2
    have q2 : upd G1 p2 (.lst [.ref p0, .ref p1]) p2 = some (.lst [.ref p0, .ref p1]) := upd_same
    generalize upd G1 p2 (.lst [.ref p0, .ref p1]) = G2 at s2 q2 ⊢
    have s02 : Same H3 G2 := (s0.trans s1).trans s2
    obtain ⟨gs, hg1, hg2⟩ := hd3.go s02
    have hlg : gs.length = 7 := Paired.length hg2
    refine ⟨g, p2, gs, [.ref p0, .ref p1], rfl, rfl, hg1, q2, sz_of (by rw [hlg]; show 7 + 2 ≤ 100000; decide), fun y hy => ?_⟩
    have s3 : Same G2 (upd G2 y (.lst (gs ++ [.ref p0, .ref p1]))) := Same.new hy
    have q3 : upd G2 y (.lst (gs ++ [.ref p0, .ref p1])) y = some (.lst (gs ++ [.ref p0, .ref p1])) := upd_same
    generalize upd G2 y (.lst (gs ++ [.ref p0, .ref p1])) = G3 at s3 q3 ⊢
    obtain ⟨fs, hf1, hf2⟩ := (ht3.go s02).go s3
    have hg3 := Paired.mapP hg2 fun v o ⟨p, hp, hq⟩ => (⟨p, hp, hq.go s3⟩ : ∃ p, v = V.ref p ∧ OcAt G3 p o)
    have hg4 := PySem.Paired.snoc (PySem.Paired.snoc hg3 (⟨p0, rfl, ((q0.go s1).go s2).go s3⟩ : ∃ p, V.ref p0 = V.ref p ∧ OcAt G3 p (.parse 1))) (⟨p1, rfl, (q1.go s2).go s3⟩ : ∃ p, V.ref p1 = V.ref p ∧ OcAt G3 p (.parse 2))
    rw [List.append_assoc] at hg4
    have hsh : SeqAt.shaped (.list (([.own [109, 111, 118, 101], .parse 2, .parse 6, .parse 4, .parse 2, .parse 1, .own [107, 105, 110, 100, 115], .parse 1, .parse 2] : List Oc).map ocD)) = true := by decide +kernel
    refine ⟨_, _, .lst (SqL.of hf1) (Told.dp hf2), .lst (SqL.of q3) (Told.dp hg4), hsh, hsh, ?_⟩
    have he := SeqAt.eqv_refl _ (SeqAt.canLay_of_shaped hsh)
    show Q (.bl (PyData.eqv (.list (([.own [109, 111, 118, 101], .parse 2, .parse 6, .parse 4, .parse 2, .parse 1, .own [107, 105, 110, 100, 115], .parse 1, .parse 2] : List Oc).map ocD)) (.list (([.own [109, 111, 118, 101], .parse 2, .parse 6, .parse 4, .parse 2, .parse 1, .own [107, 105, 110, 100, 115], .parse 1, .parse 2] : List Oc).map ocD)))) G3
    rw [he]
    exact k _
end
end Tx

set_option maxRecDepth 100000
set_option maxHeartbeats 2000000
namespace Tx
open PySem PySem.Spec PyProof.Rows L2
local macro_rules | `(tactic| walk_at "sx") => `(tactic| simp only [cxK, tSeq, tIfS, tTest, tOp, tUn, tSl, tVar, tPart, tNoPart, tC, tRet, tRetN, tNext, tAsg, tPar, tPar3, tAug, tDrop, tB, tAnd, tOr, tNot, tAndV, tOrV, tNotV, tIf, tChain, tCons, tNil, tTup, tLst, tCall, tCB, tBM, tBM0, gName, gCons, gNil, gTup, rNe, rEq, rI0, rI, rU, rSlS, ipI, tRaiseErr, tMkErr, rAppend, tLstRg, tRg1, tRg2, L2.start, List.map_cons, List.map_nil, List.length_cons, List.length_nil, List.cons_append, List.nil_append, List.append_nil, List.getElem?_cons_zero, List.getElem?_cons_succ, List.set_cons_zero, List.set_cons_succ, Option.some.injEq, V.int.injEq, V.str.injEq, V.bl.injEq, V.ref.injEq, List.cons.injEq, exists_eq_left, exists_eq_left', exists_eq_right', exists_and_left, exists_and_right, true_and, and_true, Nat.reduceAdd, Nat.reduceSub, Nat.zero_add, List.replicate_zero, List.replicate_succ, ite_d, ite_nd, ite_b, scal, len_tx, tl_tx, eq_tx, app_tx, cut_nat, cut_to, cut_from, cut_t1, cut_t2, cut_t3, one_at, none_at, two_at, take1, take2, dr0, dr1, forall_eq', forall_eq, nc1, nc2, nc3, nca, Int.natCast_pos, Int.natCast_eq_zero, Bool.not_eq_true', Bool.not_eq_false', decide_eq_true_eq, decide_eq_false_iff_not, Bool.not_true, Bool.not_false, Decidable.not_not, WE, ex2, ex3, Nat.add_sub_add_left, Int.ofNat_lt, Int.natCast_inj, if_true, if_false, Bool.true_eq_false, Bool.false_eq_true, eq_self_iff_true, Nat.add_sub_cancel_left, Nat.add_sub_cancel, imp_false, not_false_eq_true, not_true_eq_false, forall_const, exists_and_self, reduceCtorEq, false_and, and_false, exists_false, List.cons_ne_nil, wipe, List.foldr_cons, List.foldr_nil, List.foldl_cons, List.foldl_nil, tYes, tCKw, tM1, gSub, tAugS, lit_e, lit_10, lit_32, lit_32_32, lit_32_43_32, lit_32_43_32_91_49_93, lit_32_45_32, lit_40, lit_40_41, lit_40_41_40_41, lit_40_48_32_49, lit_40_48_32_49_41, lit_40_48_32_49_41_40_50_32_49_41, lit_40_48_41, lit_41, lit_43, lit_44, lit_44_44, lit_44_51, lit_45, lit_45_48, lit_45_48_91_49_93, lit_48, lit_48_48, lit_48_49, lit_48_49_50_51_52_53_54_55_56_57, lit_49, lit_49_44_44_50, lit_50, lit_50_91_48_93_32_43_91_49_93, lit_57, lit_91, lit_91_48_49_93, lit_91_48_93, lit_91_50_93, lit_93, lit_107_105_110_100_115, lit_109_111_118_101, lit_112_97_114_115_101, lit_114_111_119, lit_116_111_108_100, lit_120])
local macro_rules | `(tactic| walk_at "sl") => `(tactic| simp only [lit_e, lit_10, lit_32, lit_32_32, lit_32_43_32, lit_32_43_32_91_49_93, lit_32_45_32, lit_40, lit_40_41, lit_40_41_40_41, lit_40_48_32_49, lit_40_48_32_49_41, lit_40_48_32_49_41_40_50_32_49_41, lit_40_48_41, lit_41, lit_43, lit_44, lit_44_44, lit_44_51, lit_45, lit_45_48, lit_45_48_91_49_93, lit_48, lit_48_48, lit_48_49, lit_48_49_50_51_52_53_54_55_56_57, lit_49, lit_49_44_44_50, lit_50, lit_50_91_48_93_32_43_91_49_93, lit_57, lit_91, lit_91_48_49_93, lit_91_48_93, lit_91_50_93, lit_93, lit_107_105_110_100_115, lit_109_111_118_101, lit_112_97_114_115_101, lit_114_111_119, lit_116_111_108_100, lit_120])
section
variable {w : World} {K : PySem.W.Frag} {mg : Str → Option Value} {base : Heap}
end
open LamX
section
variable {K : PySem.W.Frag} {mg : Str → Option Value} {h : Heap}
theorem df_mk {x : Str} {st : Stmt} {ps : List Str} {f : Addr} {oc kV dc pm cd ct : Value} {od an : Option Addr} {sl : Array (Option Value)} (X : K.In h) (G : h.Ns mainGlobals mg) (a : PySem.W.nsIn K mainGlobals x = some (some (.ref f)))
    (l : K.lookup f = some ⟨oc, od, .func (PySem.W.fnOf x x (defArgs st) (defBody st) (defScope st) .none kV dc pm an cd ct), sl⟩) (c : PySem.W.codeIn K cd x = true) (k : PySem.W.keepIn K (.ref f) = true)
    (hb : ∀ (kV doc pm : Value) (an : Option Addr) (cdv ct : Value) (us : List Value), us.length = ps.length → bindArgs (PySem.W.fnOf x x (defArgs st) (defBody st) (defScope st) .none kV doc pm an cdv ct) ⟨us, []⟩ = pure (ps.zip us)) : Nonempty (Df K mg x st ps) :=
  ⟨⟨f, _, fun_mk l c k, PySem.W.mg_of X G a, (fun_mk l c k).binds hb⟩⟩
/-- LD without the base -/
structure LD0 (K : PySem.W.Frag) (mg : Str → Option Value) (x : Str) (st : Stmt) (ps : List Str) where
  f : Addr
  fd : FuncData
  c : Addr
  P : Addr
  F : FunC K x st f fd c
  kp : PySem.W.keepIn K (.ref f) = true
  m : mg x = some (.ref f)
  b : Binds K fd ps []
  hd : PySem.W.codeHdIn K c P = true
  nl : K.lookup P = none
theorem ld_mk {x : Str} {st : Stmt} {ps : List Str} {f c : Addr} (P : Addr) {oc kV dc pm ct : Value} {od an : Option Addr} {sl : Array (Option Value)} (X : K.In h) (G : h.Ns mainGlobals mg) (a : PySem.W.nsIn K mainGlobals x = some (some (.ref f)))
    (l : K.lookup f = some ⟨oc, od, .func (PySem.W.fnOf x x (defArgs st) (defBody st) (defScope st) .none kV dc pm an (.ref c) ct), sl⟩) (cc : PySem.W.codeIn K (.ref c) x = true) (k : PySem.W.keepIn K (.ref f) = true) (hd : PySem.W.codeHdIn K c P = true) (nl : K.lookup P = none)
    (hb : ∀ (kV doc pm : Value) (an : Option Addr) (cdv ct : Value) (us : List Value), us.length = ps.length → bindArgs (PySem.W.fnOf x x (defArgs st) (defBody st) (defScope st) .none kV doc pm an cdv ct) ⟨us, []⟩ = pure (ps.zip us)) :
    ∃ D : LD0 K mg x st ps, D.P = P :=
  ⟨⟨f, _, c, P, ⟨⟨oc, od, kV, dc, pm, an, ct, sl, rfl, l, cc⟩⟩, k, PySem.W.mg_of X G a, (fun_mk l cc k).binds hb, hd, nl⟩, rfl⟩
def LD0.up {x : Str} {st : Stmt} {ps : List Str} {base : Heap} (D : LD0 K mg x st ps) (T : TabB base mg D.c D.P) : LD K mg base x st ps := ⟨D.f, D.fd, D.c, D.P, D.F, T, D.kp, D.m, D.b⟩
structure Lg0 (K : PySem.W.Frag) (mg : Str → Option Value) where
  moves : LD0 K mg "_law_moves_right" (top 52) ["bag"]
  rows : LD0 K mg "_law_rows_right" (top 54) ["bag"]
  kinds : LD0 K mg "_law_kinds_right" (top 55) ["bag"]
  law : LD0 K mg "law" (top 56) ["script"]
  d12 : moves.P ≠ rows.P
  d13 : moves.P ≠ kinds.P
  d14 : moves.P ≠ law.P
  d23 : rows.P ≠ kinds.P
  d24 : rows.P ≠ law.P
  d34 : kinds.P ≠ law.P
def Lg0.cs (L : Lg0 K mg) : List (Addr × Addr) := [(L.moves.c, L.moves.P), (L.rows.c, L.rows.P), (L.kinds.c, L.kinds.P), (L.law.c, L.law.P)]
def Lg0.tabs (L : Lg0 K mg) : List (Addr × Str) :=
  [(L.moves.P, lamQ "_law_moves_right" (defScope (top 52))), (L.rows.P, lamQ "_law_rows_right" (defScope (top 54))), (L.kinds.P, lamQ "_law_kinds_right" (defScope (top 55))), (L.law.P, lamQ "law" (defScope (top 56)))]
def Lg0.up {base : Heap} (L : Lg0 K mg) (T : ∀ p ∈ L.cs, TabB base mg p.1 p.2) : Lg K mg base where
  moves := L.moves.up (T (L.moves.c, L.moves.P) (by simp [Lg0.cs]))
  rows := L.rows.up (T (L.rows.c, L.rows.P) (by simp [Lg0.cs]))
  kinds := L.kinds.up (T (L.kinds.c, L.kinds.P) (by simp [Lg0.cs]))
  law := L.law.up (T (L.law.c, L.law.P) (by simp [Lg0.cs]))
  d12 := L.d12
  d13 := L.d13
  d14 := L.d14
  d23 := L.d23
  d24 := L.d24
  d34 := L.d34
theorem law_at {l : PySem.W.OpenLaw} {w : World} {fa : Addr} (hp : l.prog = prog) (S : Pg K mg) (M : MetOk S) (L : Lg0 K mg) (X : K.In h) (hfa : mg "law" = some (.ref fa)) (hT : ∀ p ∈ L.cs, h.get? p.2 = some { cls := .none, data := .fields #[] }) :
    LawAtS l w K CX0 9 63 "script" mg fa h := by
  have e := hfa.symm.trans L.law.m
  cases e
  have nl : ∀ p ∈ L.cs, K.lookup p.2 = none ∧ PySem.W.codeHdIn K p.1 p.2 = true := fun p hp => by
    simp only [Lg0.cs, List.mem_cons, List.not_mem_nil, or_false] at hp
    rcases hp with rfl | rfl | rfl | rfl
    · exact ⟨L.moves.nl, L.moves.hd⟩
    · exact ⟨L.rows.nl, L.rows.hd⟩
    · exact ⟨L.kinds.nl, L.kinds.hd⟩
    · exact ⟨L.law.nl, L.law.hd⟩
  refine ⟨L.law.fd, L.cs, spL K L.tabs, hT, fun p hp => (nl p hp).1, fun p hp => PySem.W.codeHd_of_K X (nl p hp).2, ?_, ?_, ?_⟩
  · obtain ⟨oc, od, kV, doc, pm, an, ct, osl, e, lk, hcd⟩ := L.law.F.ex
    intro s u
    rw [e]
    exact .of_eq rfl
  · intro H a ns hl _ hH hS
    refine ⟨a, ns, rfl, hS, by omega, fun p hp => ?_, fun _ => rfl⟩
    simp only [Lg0.tabs, List.mem_cons, List.not_mem_nil, or_false] at hp
    rcases hp with rfl | rfl | rfl | rfl
    · exact TabS.nil (hH (L.moves.c, L.moves.P) (by simp [Lg0.cs]))
    · exact TabS.nil (hH (L.rows.c, L.rows.P) (by simp [Lg0.cs]))
    · exact TabS.nil (hH (L.kinds.c, L.kinds.P) (by simp [Lg0.cs]))
    · exact TabS.nil (hH (L.law.c, L.law.P) (by simp [Lg0.cs]))
  · intro base _ _ T
    rw [hp]
    exact ok_law S M (L.up T)
end
theorem flok_index : PySem.ErrX.FlOk "index" := ⟨by decide, by decide, by decide, by decide, by decide, fun _ _ _ _ _ _ _ _ _ _ => rfl⟩
open PySem.W PySem.ErrX PySem.Calls PySem.HandSPX in
theorem err_mk {K : PySem.W.Frag} {mg : Str → Option Value} {h : Heap} {C fI : Addr} (X : K.In h) (G : h.Ns mainGlobals mg) {nm q : Str} {N : Addr} {bs bm : List Value} {sn : List Str} {sub : List Value} {ab : Bool} {col : Option Bool} {dd : Option Addr} {k0 k1 k2 k3 k5 : Option Value}
    {oc doc pm ct : Value} {od an : Option Addr} {osl : Array (Option Value)} {cc cda : Addr} {z : Pz} {ccl : Value} {cdd : Option Addr} {vs : Array Value} {ccs : Array (Option Value)} {file : Str} {tf : Tok} {cl : Value} {cld : Option Addr} {csl : Array (Option Value)}
    (gC : nsIn K mainGlobals "ParseError" = some (some (.ref C))) (xL : K.lookup C = some (excClassObj nm q C N bs bm true sn sub ab col dd k0 k1 k2 k3 k5 "ValueError.__new__")) (rf : refsVE bm = true)
    (sa : findIn K (.ref C) "__setattr__" = some (some (.builtin "object.__setattr__"))) (noN : findIn K (.ref C) "index" = some none) (iC : findIn K (.ref C) "__init__" = some (some (.ref fI))) (tC : typeIn K (.ref fI) = some (.type "function")) (kC : keepIn K (.ref C) = true)
    (exC : subIn K (.ref C) (.type "BaseException") = some true) (vaC : subIn K (.ref C) (.type "ValueError") = some true) (slf : mroIn K C (.ref C) = some true) (tyC : typeIn K (.ref C) = some (.type "type")) (te : exmOne K (.ref C) (.ref C) = some true)
    (ga : findIn K (.ref C) "__getattribute__" = some (some (.builtin "BaseException.__getattribute__"))) (gg : findIn K (.ref C) "__getattr__" = some none) (hd : hasDictIn K C = true)
    (ou : nsIn K cStatics "thirdparty.any" = some none) (up : ks_superIn K C C "__init__" = some (some (.builtin "ValueError.__init__"))) (sg : nsIn K mainGlobals "super" = some none) (tp : (prog.main.scope.names.lookup ("super" : Str)).isSome = false)
    {ob : Obj} (lf : K.lookup fI = some ob) (le : ob = ⟨oc, od, .func (ksFn "__init__" "ParseError.__init__" (iA "index" z) (iB "index" z) (iS "index") .none .none doc pm an (.ref cda) ct cc), osl⟩) (cf : codeIn K (.ref cda) "ParseError.__init__" = true) (zz : (z.q3.endLine == z.q5.line) = true)
    (lc : K.lookup cda = some ⟨ccl, cdd, .fields vs, ccs⟩) (vc : vs[2]? = some (.str file tf)) (fc : ((prog.main.file : Str) == file) = true) (lcc : K.lookup cc = some ⟨cl, cld, .cell (some (.ref C)), csl⟩) :
    ErrTxt prog K mg "ParseError" "ParseError.__init__" "index" C fI where
  fo := flok_index
  gC := mg_of X G gC
  cls := ⟨nm, q, N, bs, bm, sn, sub, ab, col, dd, k0, k1, k2, k3, k5, xL, rf⟩
  sa := sa
  noN := noN
  iC := iC
  tC := tC
  kC := kC
  exC := exC
  vaC := vaC
  slf := slf
  tyC := tyC
  te := te
  xf := ⟨ga, gg, exC, hd⟩
  ou := ou
  up := up
  sg := mg_none_of X G sg
  top := tp
  fn := ⟨oc, od, doc, pm, an, ct, osl, cc, cda, z, lf.trans (congrArg some le), cf, zz, ⟨ccl, cdd, vs, ccs, file, tf, lc, vc, fc⟩, ⟨cl, cld, csl, lcc⟩⟩
/-- the exceptions -/
structure ExcK (K : PySem.W.Frag) (mg : Str → Option Value) where
  xm : Xo K mg "InvalidMove"
  xr : Xo K mg "InvalidRow"
  xk : Xo K mg "InvalidKinds"
  c : Addr
  i : Addr
  e : PySem.ErrX.ErrTxt prog K mg "ParseError" "ParseError.__init__" "index" c i
  e21 : PySem.W.exmOne K (.ref xm.C) (.ref c) = some false
  e22 : PySem.W.exmOne K (.ref xm.C) (.ref xm.C) = some true
  e31 : PySem.W.exmOne K (.ref xr.C) (.ref c) = some false
  e32 : PySem.W.exmOne K (.ref xr.C) (.ref xm.C) = some false
  e33 : PySem.W.exmOne K (.ref xr.C) (.ref xr.C) = some true
  e41 : PySem.W.exmOne K (.ref xk.C) (.ref c) = some false
  e42 : PySem.W.exmOne K (.ref xk.C) (.ref xm.C) = some false
  e43 : PySem.W.exmOne K (.ref xk.C) (.ref xr.C) = some false
  e44 : PySem.W.exmOne K (.ref xk.C) (.ref xk.C) = some true
theorem xo_mk {K : PySem.W.Frag} {mg : Str → Option Value} {h : Heap} (X : K.In h) (G : h.Ns mainGlobals mg) {nm : Str} {C : Addr} (a : PySem.W.nsIn K mainGlobals nm = some (some (.ref C)))
    (x : PySem.W.excIn K C [.type "ValueError", .type "Exception", .type "BaseException", .type "object"] "ValueError.__new__" = true) (k : PySem.W.keepIn K (.ref C) = true) (b : PySem.W.subIn K (.ref C) (.type "BaseException") = some true) (t : PySem.W.typeIn K (.ref C) = some (.type "type")) :
    ∃ D : Xo K mg nm, D.C = C := ⟨⟨C, x, PySem.W.mg_of X G a, k, b, t⟩, rfl⟩
open PySem.W in
theorem exck_mk {K : PySem.W.Frag} {mg : Str → Option Value} {C1 C2 C3 C4 f1 : Addr} (D2 : ∃ D : Xo K mg "InvalidMove", D.C = C2) (D3 : ∃ D : Xo K mg "InvalidRow", D.C = C3) (D4 : ∃ D : Xo K mg "InvalidKinds", D.C = C4) (E : PySem.ErrX.ErrTxt prog K mg "ParseError" "ParseError.__init__" "index" C1 f1)
    (h2 : hasDictIn K C2 = true) (h3 : hasDictIn K C3 = true) (h4 : hasDictIn K C4 = true)
    (s21 : subIn K (.ref C2) (.ref C1) = some false) (s22 : subIn K (.ref C2) (.ref C2) = some true) (s31 : subIn K (.ref C3) (.ref C1) = some false) (s32 : subIn K (.ref C3) (.ref C2) = some false) (s33 : subIn K (.ref C3) (.ref C3) = some true)
    (s41 : subIn K (.ref C4) (.ref C1) = some false) (s42 : subIn K (.ref C4) (.ref C2) = some false) (s43 : subIn K (.ref C4) (.ref C3) = some false) (s44 : subIn K (.ref C4) (.ref C4) = some true) : Nonempty (ExcK K mg) := by
  obtain ⟨D2, rfl⟩ := D2
  obtain ⟨D3, rfl⟩ := D3
  obtain ⟨D4, rfl⟩ := D4
  exact ⟨⟨D2, D3, D4, C1, f1, E, exm_ref E.exC E.xf.hdC E.tyC s21, exm_ref D2.b h2 D2.t s22, exm_ref E.exC E.xf.hdC E.tyC s31, exm_ref D2.b h2 D2.t s32, exm_ref D3.b h3 D3.t s33, exm_ref E.exC E.xf.hdC E.tyC s41, exm_ref D2.b h2 D2.t s42, exm_ref D3.b h3 D3.t s43, exm_ref D4.b h4 D4.t s44⟩⟩
theorem cst_mk {K : PySem.W.Frag} {mg : Str → Option Value} {h : Heap} {x : Str} {v : Value} {f : Tok → Value} (X : K.In h) (G : h.Ns mainGlobals mg) (a : PySem.W.nsIn K mainGlobals x = some (some v)) (e : ∃ t, v = f t) : ∃ t, mg x = some (f t) := by
  obtain ⟨t, rfl⟩ := e
  exact ⟨t, PySem.W.mg_of X G a⟩
theorem nonE {α : Type} {p : Prop} (h : Nonempty α) (k : α → p) : p := h.elim k
theorem exE {α : Type} {q : α → Prop} {p : Prop} (h : ∃ x, q x) (k : ∀ x, q x → p) : p := h.elim k
/-- the end of the row: as walk_ofTs, what is known of loose names handed on -/
theorem walk_end {l : PySem.W.OpenLaw} {q : Program} {loose : List Str} {XP : (Str → Option Value) → Heap → Prop} {YP : World → Heap → Prop} {d : DefRec} {K : Params → PySem.W.Frag}
    (hn : l.most = some 63) (hdf : d.params.defaults = []) (hY : ∀ (w : World) (h : Heap), YP w h → (K w.params).In h)
    (F : ∀ (w : World) (mg : Str → Option Value) (fa : Addr) (h : Heap), XP mg h → YP w h → (K w.params).In h → h.Ns mainGlobals mg → mg d.name = some (.ref fa) → LawAtS l w (K w.params) CX0 9 63 "script" mg fa h) :
    PySem.W.WalkO q loose XP YP l.row.toRowW d [] (fun f vs => PySem.call f vs) := by
  refine Att.attach_callB hn hdf fun w s₀ s₁ mg mb fa o pm cd doc a vs ns G Y ho hd hcd hmg hobj hints hlen hbits hg => ?_
  have KX := hY w _ Y
  obtain ⟨fd, cs, sp, hT, nT, C, hb, hsp, hF⟩ := F w mg fa _ G.X Y KX G.T.g hmg
  exact law_callTs KX G.T.g G.T.b G.T.builtins G.T.nolimit hg hT nT C G.T.bmain hobj hints (Nat.le_trans hlen (by decide)) ⟨rfl, by decide, by decide⟩ hF hb (fun H hH hS => hsp H a ns hlen hbits hH hS) fun H e s' z => z
theorem far_of {q : Program} {lv : List (Str × PySem.W.WData)} {mg : Str → Option Value} {h : Heap} {i : Int} (X : PySem.W.XL q lv mg h) (hm : (Str.ofString "FAR", PySem.W.WData.int i) ∈ lv) : ∃ t, mg "FAR" = some (.int i t) := by
  obtain ⟨v, hv, hr⟩ := X.2.val _ hm
  cases hr
  exact ⟨_, hv⟩
end Tx

open PySem PySem.W PyProof.Rows
set_option maxRecDepth 100000 in
set_option maxHeartbeats 0 in
theorem PySem.Challenge.cw_meetandmake_k85_whole_texts_with_faults_holds : PySem.Challenge.rw_meetandmake_k85_whole_texts_with_faults.Holds := by
  w_on; o_law; k_head; (case hw => w_witness2)
  k_fill
  refine Tx.walk_end (l := PySem.Challenge.rw_meetandmake_k85_whole_texts_with_faults) rfl rfl (fun w h Y => PySem.W.km_in_of Y) ?F
  case F =>
    intro w mg fa h XL0 Y KX G hmg
    refine' Tx.nonE (Tx.df_mk (x := "is_plain") (st := Tx.top 9) (ps := ["value"]) KX G ?a_1 ?l_1 ?c_1 ?k_1 ?b_1) fun D_is_plain => ?r_1
    (case a_1 => k_is); (case l_1 => k_is); (case c_1 => k_is); (case k_1 => k_is)
    (case b_1 => exact fun _ _ _ _ _ _ us hl => match us, hl with | [_], _ => rfl)
    refine' Tx.nonE (Tx.df_mk (x := "is_integer") (st := Tx.top 10) (ps := ["value"]) KX G ?a_2 ?l_2 ?c_2 ?k_2 ?b_2) fun D_is_integer => ?r_2
    (case a_2 => k_is); (case l_2 => k_is); (case c_2 => k_is); (case k_2 => k_is)
    (case b_2 => exact fun _ _ _ _ _ _ us hl => match us, hl with | [_], _ => rfl)
    refine' Tx.nonE (Tx.df_mk (x := "is_within") (st := Tx.top 11) (ps := ["value", "low", "high"]) KX G ?a_3 ?l_3 ?c_3 ?k_3 ?b_3) fun D_is_within => ?r_3
    (case a_3 => k_is); (case l_3 => k_is); (case c_3 => k_is); (case k_3 => k_is)
    (case b_3 => exact fun _ _ _ _ _ _ us hl => match us, hl with | [_, _, _], _ => rfl)
    refine' Tx.nonE (Tx.df_mk (x := "require_within") (st := Tx.top 12) (ps := ["value", "low", "high"]) KX G ?a_4 ?l_4 ?c_4 ?k_4 ?b_4) fun D_require_within => ?r_4
    (case a_4 => k_is); (case l_4 => k_is); (case c_4 => k_is); (case k_4 => k_is)
    (case b_4 => exact fun _ _ _ _ _ _ us hl => match us, hl with | [_, _, _], _ => rfl)
    refine' Tx.nonE (Tx.df_mk (x := "are_integers") (st := Tx.top 21) (ps := ["value"]) KX G ?a_5 ?l_5 ?c_5 ?k_5 ?b_5) fun D_are_integers => ?r_5
    (case a_5 => k_is); (case l_5 => k_is); (case c_5 => k_is); (case k_5 => k_is)
    (case b_5 => exact fun _ _ _ _ _ _ us hl => match us, hl with | [_], _ => rfl)
    refine' Tx.nonE (Tx.df_mk (x := "require_sign") (st := Tx.top 22) (ps := ["text", "index", "sign"]) KX G ?a_6 ?l_6 ?c_6 ?k_6 ?b_6) fun D_require_sign => ?r_6
    (case a_6 => k_is); (case l_6 => k_is); (case c_6 => k_is); (case k_6 => k_is)
    (case b_6 => exact fun _ _ _ _ _ _ us hl => match us, hl with | [_, _, _], _ => rfl)
    refine' Tx.nonE (Tx.df_mk (x := "require_text") (st := Tx.top 23) (ps := ["value"]) KX G ?a_7 ?l_7 ?c_7 ?k_7 ?b_7) fun D_require_text => ?r_7
    (case a_7 => k_is); (case l_7 => k_is); (case c_7 => k_is); (case k_7 => k_is)
    (case b_7 => exact fun _ _ _ _ _ _ us hl => match us, hl with | [_], _ => rfl)
    refine' Tx.nonE (Tx.df_mk (x := "plain_at") (st := Tx.top 24) (ps := ["text", "index"]) KX G ?a_8 ?l_8 ?c_8 ?k_8 ?b_8) fun D_plain_at => ?r_8
    (case a_8 => k_is); (case l_8 => k_is); (case c_8 => k_is); (case k_8 => k_is)
    (case b_8 => exact fun _ _ _ _ _ _ us hl => match us, hl with | [_, _], _ => rfl)
    refine' Tx.nonE (Tx.df_mk (x := "signed_at") (st := Tx.top 25) (ps := ["text", "index"]) KX G ?a_9 ?l_9 ?c_9 ?k_9 ?b_9) fun D_signed_at => ?r_9
    (case a_9 => k_is); (case l_9 => k_is); (case c_9 => k_is); (case k_9 => k_is)
    (case b_9 => exact fun _ _ _ _ _ _ us hl => match us, hl with | [_, _], _ => rfl)
    refine' Tx.nonE (Tx.df_mk (x := "cycle_at") (st := Tx.top 26) (ps := ["text", "index"]) KX G ?a_10 ?l_10 ?c_10 ?k_10 ?b_10) fun D_cycle_at => ?r_10
    (case a_10 => k_is); (case l_10 => k_is); (case c_10 => k_is); (case k_10 => k_is)
    (case b_10 => exact fun _ _ _ _ _ _ us hl => match us, hl with | [_, _], _ => rfl)
    refine' Tx.nonE (Tx.df_mk (x := "cycles_at") (st := Tx.top 27) (ps := ["text", "index"]) KX G ?a_11 ?l_11 ?c_11 ?k_11 ?b_11) fun D_cycles_at => ?r_11
    (case a_11 => k_is); (case l_11 => k_is); (case c_11 => k_is); (case k_11 => k_is)
    (case b_11 => exact fun _ _ _ _ _ _ us hl => match us, hl with | [_, _], _ => rfl)
    refine' Tx.nonE (Tx.df_mk (x := "require_end") (st := Tx.top 28) (ps := ["text", "index"]) KX G ?a_12 ?l_12 ?c_12 ?k_12 ?b_12) fun D_require_end => ?r_12
    (case a_12 => k_is); (case l_12 => k_is); (case c_12 => k_is); (case k_12 => k_is)
    (case b_12 => exact fun _ _ _ _ _ _ us hl => match us, hl with | [_, _], _ => rfl)
    refine' Tx.nonE (Tx.df_mk (x := "move_told") (st := Tx.top 29) (ps := ["places", "cycles"]) KX G ?a_13 ?l_13 ?c_13 ?k_13 ?b_13) fun D_move_told => ?r_13
    (case a_13 => k_is); (case l_13 => k_is); (case c_13 => k_is); (case k_13 => k_is)
    (case b_13 => exact fun _ _ _ _ _ _ us hl => match us, hl with | [_, _], _ => rfl)
    refine' Tx.nonE (Tx.df_mk (x := "read_move") (st := Tx.top 30) (ps := ["text", "places"]) KX G ?a_14 ?l_14 ?c_14 ?k_14 ?b_14) fun D_read_move => ?r_14
    (case a_14 => k_is); (case l_14 => k_is); (case c_14 => k_is); (case k_14 => k_is)
    (case b_14 => exact fun _ _ _ _ _ _ us hl => match us, hl with | [_, _], _ => rfl)
    refine' Tx.nonE (Tx.df_mk (x := "read_row") (st := Tx.top 31) (ps := ["text"]) KX G ?a_15 ?l_15 ?c_15 ?k_15 ?b_15) fun D_read_row => ?r_15
    (case a_15 => k_is); (case l_15 => k_is); (case c_15 => k_is); (case k_15 => k_is)
    (case b_15 => exact fun _ _ _ _ _ _ us hl => match us, hl with | [_], _ => rfl)
    refine' Tx.nonE (Tx.df_mk (x := "term_at") (st := Tx.top 32) (ps := ["text", "index"]) KX G ?a_16 ?l_16 ?c_16 ?k_16 ?b_16) fun D_term_at => ?r_16
    (case a_16 => k_is); (case l_16 => k_is); (case c_16 => k_is); (case k_16 => k_is)
    (case b_16 => exact fun _ _ _ _ _ _ us hl => match us, hl with | [_, _], _ => rfl)
    refine' Tx.nonE (Tx.df_mk (x := "terms_at") (st := Tx.top 33) (ps := ["text"]) KX G ?a_17 ?l_17 ?c_17 ?k_17 ?b_17) fun D_terms_at => ?r_17
    (case a_17 => k_is); (case l_17 => k_is); (case c_17 => k_is); (case k_17 => k_is)
    (case b_17 => exact fun _ _ _ _ _ _ us hl => match us, hl with | [_], _ => rfl)
    refine' Tx.nonE (Tx.df_mk (x := "read_kinds") (st := Tx.top 34) (ps := ["text", "length"]) KX G ?a_18 ?l_18 ?c_18 ?k_18 ?b_18) fun D_read_kinds => ?r_18
    (case a_18 => k_is); (case l_18 => k_is); (case c_18 => k_is); (case k_18 => k_is)
    (case b_18 => exact fun _ _ _ _ _ _ us hl => match us, hl with | [_, _], _ => rfl)
    refine' Tx.nonE (Tx.df_mk (x := "_law_bag") (st := Tx.top 36) (ps := ["script", "spot"]) KX G ?a_19 ?l_19 ?c_19 ?k_19 ?b_19) fun D__law_bag => ?r_19
    (case a_19 => k_is); (case l_19 => k_is); (case c_19 => k_is); (case k_19 => k_is)
    (case b_19 => exact fun _ _ _ _ _ _ us hl => match us, hl with | [_, _], _ => rfl)
    refine' Tx.nonE (Tx.df_mk (x := "_law_grab") (st := Tx.top 37) (ps := ["bag", "total"]) KX G ?a_20 ?l_20 ?c_20 ?k_20 ?b_20) fun D__law_grab => ?r_20
    (case a_20 => k_is); (case l_20 => k_is); (case c_20 => k_is); (case k_20 => k_is)
    (case b_20 => exact fun _ _ _ _ _ _ us hl => match us, hl with | [_, _], _ => rfl)
    refine' Tx.nonE (Tx.df_mk (x := "_law_one_of") (st := Tx.top 38) (ps := ["bag", "items"]) KX G ?a_21 ?l_21 ?c_21 ?k_21 ?b_21) fun D__law_one_of => ?r_21
    (case a_21 => k_is); (case l_21 => k_is); (case c_21 => k_is); (case k_21 => k_is)
    (case b_21 => exact fun _ _ _ _ _ _ us hl => match us, hl with | [_, _], _ => rfl)
    refine' Tx.nonE (Tx.df_mk (x := "_law_cycles") (st := Tx.top 39) (ps := ["move"]) KX G ?a_22 ?l_22 ?c_22 ?k_22 ?b_22) fun D__law_cycles => ?r_22
    (case a_22 => k_is); (case l_22 => k_is); (case c_22 => k_is); (case k_22 => k_is)
    (case b_22 => exact fun _ _ _ _ _ _ us hl => match us, hl with | [_], _ => rfl)
    refine' Tx.nonE (Tx.df_mk (x := "_law_move_drawn") (st := Tx.top 40) (ps := ["bag", "places"]) KX G ?a_23 ?l_23 ?c_23 ?k_23 ?b_23) fun D__law_move_drawn => ?r_23
    (case a_23 => k_is); (case l_23 => k_is); (case c_23 => k_is); (case k_23 => k_is)
    (case b_23 => exact fun _ _ _ _ _ _ us hl => match us, hl with | [_, _], _ => rfl)
    refine' Tx.nonE (Tx.df_mk (x := "_law_figures") (st := Tx.top 41) (ps := ["text", "at"]) KX G ?a_24 ?l_24 ?c_24 ?k_24 ?b_24) fun D__law_figures => ?r_24
    (case a_24 => k_is); (case l_24 => k_is); (case c_24 => k_is); (case k_24 => k_is)
    (case b_24 => exact fun _ _ _ _ _ _ us hl => match us, hl with | [_, _], _ => rfl)
    refine' Tx.nonE (Tx.df_mk (x := "_law_cycles_from") (st := Tx.top 42) (ps := ["text", "at"]) KX G ?a_25 ?l_25 ?c_25 ?k_25 ?b_25) fun D__law_cycles_from => ?r_25
    (case a_25 => k_is); (case l_25 => k_is); (case c_25 => k_is); (case k_25 => k_is)
    (case b_25 => exact fun _ _ _ _ _ _ us hl => match us, hl with | [_, _], _ => rfl)
    refine' Tx.nonE (Tx.df_mk (x := "_law_move_of") (st := Tx.top 43) (ps := ["places", "rings"]) KX G ?a_26 ?l_26 ?c_26 ?k_26 ?b_26) fun D__law_move_of => ?r_26
    (case a_26 => k_is); (case l_26 => k_is); (case c_26 => k_is); (case k_26 => k_is)
    (case b_26 => exact fun _ _ _ _ _ _ us hl => match us, hl with | [_, _], _ => rfl)
    refine' Tx.nonE (Tx.df_mk (x := "_law_move_text") (st := Tx.top 44) (ps := ["move"]) KX G ?a_27 ?l_27 ?c_27 ?k_27 ?b_27) fun D__law_move_text => ?r_27
    (case a_27 => k_is); (case l_27 => k_is); (case c_27 => k_is); (case k_27 => k_is)
    (case b_27 => exact fun _ _ _ _ _ _ us hl => match us, hl with | [_], _ => rfl)
    refine' Tx.nonE (Tx.df_mk (x := "_law_move_read") (st := Tx.top 45) (ps := ["text", "places"]) KX G ?a_28 ?l_28 ?c_28 ?k_28 ?b_28) fun D__law_move_read => ?r_28
    (case a_28 => k_is); (case l_28 => k_is); (case c_28 => k_is); (case k_28 => k_is)
    (case b_28 => exact fun _ _ _ _ _ _ us hl => match us, hl with | [_, _], _ => rfl)
    refine' Tx.nonE (Tx.df_mk (x := "_law_near_text") (st := Tx.top 46) (ps := ["bag", "text", "signs"]) KX G ?a_29 ?l_29 ?c_29 ?k_29 ?b_29) fun D__law_near_text => ?r_29
    (case a_29 => k_is); (case l_29 => k_is); (case c_29 => k_is); (case k_29 => k_is)
    (case b_29 => exact fun _ _ _ _ _ _ us hl => match us, hl with | [_, _, _], _ => rfl)
    refine' Tx.nonE (Tx.df_mk (x := "_law_kinds_text") (st := Tx.top 47) (ps := ["kinds"]) KX G ?a_30 ?l_30 ?c_30 ?k_30 ?b_30) fun D__law_kinds_text => ?r_30
    (case a_30 => k_is); (case l_30 => k_is); (case c_30 => k_is); (case k_30 => k_is)
    (case b_30 => exact fun _ _ _ _ _ _ us hl => match us, hl with | [_], _ => rfl)
    refine' Tx.nonE (Tx.df_mk (x := "_law_met") (st := Tx.top 48) (ps := ["call"]) KX G ?a_31 ?l_31 ?c_31 ?k_31 ?b_31) fun D__law_met => ?r_31
    (case a_31 => k_is); (case l_31 => k_is); (case c_31 => k_is); (case k_31 => k_is)
    (case b_31 => exact fun _ _ _ _ _ _ us hl => match us, hl with | [_], _ => rfl)
    refine' Tx.nonE (Tx.df_mk (x := "_law_row_read") (st := Tx.top 49) (ps := ["text"]) KX G ?a_32 ?l_32 ?c_32 ?k_32 ?b_32) fun D__law_row_read => ?r_32
    (case a_32 => k_is); (case l_32 => k_is); (case c_32 => k_is); (case k_32 => k_is)
    (case b_32 => exact fun _ _ _ _ _ _ us hl => match us, hl with | [_], _ => rfl)
    refine' Tx.nonE (Tx.df_mk (x := "_law_term_from") (st := Tx.top 50) (ps := ["text", "here"]) KX G ?a_33 ?l_33 ?c_33 ?k_33 ?b_33) fun D__law_term_from => ?r_33
    (case a_33 => k_is); (case l_33 => k_is); (case c_33 => k_is); (case k_33 => k_is)
    (case b_33 => exact fun _ _ _ _ _ _ us hl => match us, hl with | [_, _], _ => rfl)
    refine' Tx.nonE (Tx.df_mk (x := "_law_kinds_read") (st := Tx.top 51) (ps := ["text", "length"]) KX G ?a_34 ?l_34 ?c_34 ?k_34 ?b_34) fun D__law_kinds_read => ?r_34
    (case a_34 => k_is); (case l_34 => k_is); (case c_34 => k_is); (case k_34 => k_is)
    (case b_34 => exact fun _ _ _ _ _ _ us hl => match us, hl with | [_, _], _ => rfl)
    refine' Tx.nonE (Tx.df_mk (x := "_law_number") (st := Tx.top 53) (ps := ["bag"]) KX G ?a_35 ?l_35 ?c_35 ?k_35 ?b_35) fun D__law_number => ?r_35
    (case a_35 => k_is); (case l_35 => k_is); (case c_35 => k_is); (case k_35 => k_is)
    (case b_35 => exact fun _ _ _ _ _ _ us hl => match us, hl with | [_], _ => rfl)
    refine' Tx.exE (Tx.ld_mk (x := "_law_moves_right") (st := Tx.top 52) (ps := ["bag"]) 334 KX G ?a_36 ?l_36 ?c_36 ?k_36 ?hd_36 ?nl_36 ?b_36) fun L__law_moves_right e0 => ?r_36
    (case a_36 => k_is); (case l_36 => k_is); (case c_36 => k_is); (case k_36 => k_is)
    (case hd_36 => first | k_is | kernel_rfl)
    (case nl_36 => first | k_is | kernel_rfl)
    (case b_36 => exact fun _ _ _ _ _ _ us hl => match us, hl with | [_], _ => rfl)
    refine' Tx.exE (Tx.ld_mk (x := "_law_rows_right") (st := Tx.top 54) (ps := ["bag"]) 348 KX G ?a_37 ?l_37 ?c_37 ?k_37 ?hd_37 ?nl_37 ?b_37) fun L__law_rows_right e1 => ?r_37
    (case a_37 => k_is); (case l_37 => k_is); (case c_37 => k_is); (case k_37 => k_is)
    (case hd_37 => first | k_is | kernel_rfl)
    (case nl_37 => first | k_is | kernel_rfl)
    (case b_37 => exact fun _ _ _ _ _ _ us hl => match us, hl with | [_], _ => rfl)
    refine' Tx.exE (Tx.ld_mk (x := "_law_kinds_right") (st := Tx.top 55) (ps := ["bag"]) 353 KX G ?a_38 ?l_38 ?c_38 ?k_38 ?hd_38 ?nl_38 ?b_38) fun L__law_kinds_right e2 => ?r_38
    (case a_38 => k_is); (case l_38 => k_is); (case c_38 => k_is); (case k_38 => k_is)
    (case hd_38 => first | k_is | kernel_rfl)
    (case nl_38 => first | k_is | kernel_rfl)
    (case b_38 => exact fun _ _ _ _ _ _ us hl => match us, hl with | [_], _ => rfl)
    refine' Tx.exE (Tx.ld_mk (x := "law") (st := Tx.top 56) (ps := ["script"]) 358 KX G ?a_39 ?l_39 ?c_39 ?k_39 ?hd_39 ?nl_39 ?b_39) fun L_law e3 => ?r_39
    (case a_39 => k_is); (case l_39 => k_is); (case c_39 => k_is); (case k_39 => k_is)
    (case hd_39 => first | k_is | kernel_rfl)
    (case nl_39 => first | k_is | kernel_rfl)
    (case b_39 => exact fun _ _ _ _ _ _ us hl => match us, hl with | [_], _ => rfl)
    have b_isinstance : mg "isinstance" = none := PySem.W.mg_none_of KX G (by k_is)
    have b_int : mg "int" = none := PySem.W.mg_none_of KX G (by k_is)
    have b_bool : mg "bool" = none := PySem.W.mg_none_of KX G (by k_is)
    have b_str : mg "str" = none := PySem.W.mg_none_of KX G (by k_is)
    have b_tuple : mg "tuple" = none := PySem.W.mg_none_of KX G (by k_is)
    have b_list : mg "list" = none := PySem.W.mg_none_of KX G (by k_is)
    have b_len : mg "len" = none := PySem.W.mg_none_of KX G (by k_is)
    have b_min : mg "min" = none := PySem.W.mg_none_of KX G (by k_is)
    have b_max : mg "max" = none := PySem.W.mg_none_of KX G (by k_is)
    have b_range : mg "range" = none := PySem.W.mg_none_of KX G (by k_is)
    have b_enumerate : mg "enumerate" = none := PySem.W.mg_none_of KX G (by k_is)
    have b_any : mg "any" = none := PySem.W.mg_none_of KX G (by k_is)
    have b_all : mg "all" = none := PySem.W.mg_none_of KX G (by k_is)
    have b_sum : mg "sum" = none := PySem.W.mg_none_of KX G (by k_is)
    have b_abs : mg "abs" = none := PySem.W.mg_none_of KX G (by k_is)
    have g_MOST_SIGNS : ∃ t, mg "MOST_SIGNS" = some (.int 3000 t) := by
      refine' Tx.cst_mk KX G ?a ?e
      (case a => k_is)
      (case e => exact ⟨_, rfl⟩)
    obtain ⟨t_MOST_SIGNS, g_MOST_SIGNS⟩ := g_MOST_SIGNS
    have g_MOST_MEMBERS : ∃ t, mg "MOST_MEMBERS" = some (.int 60 t) := by
      refine' Tx.cst_mk KX G ?a ?e
      (case a => k_is)
      (case e => exact ⟨_, rfl⟩)
    obtain ⟨t_MOST_MEMBERS, g_MOST_MEMBERS⟩ := g_MOST_MEMBERS
    have g_MOST_PLACES : ∃ t, mg "MOST_PLACES" = some (.int 24 t) := by
      refine' Tx.cst_mk KX G ?a ?e
      (case a => k_is)
      (case e => exact ⟨_, rfl⟩)
    obtain ⟨t_MOST_PLACES, g_MOST_PLACES⟩ := g_MOST_PLACES
    have g_MOST_FIGURES : ∃ t, mg "MOST_FIGURES" = some (.int 60 t) := by
      refine' Tx.cst_mk KX G ?a ?e
      (case a => k_is)
      (case e => exact ⟨_, rfl⟩)
    obtain ⟨t_MOST_FIGURES, g_MOST_FIGURES⟩ := g_MOST_FIGURES
    have g_FIGURES : ∃ t, mg "FIGURES" = some (.str "0123456789" t) := by
      refine' Tx.cst_mk KX G ?a ?e
      (case a => k_is)
      (case e => exact ⟨_, rfl⟩)
    obtain ⟨t_FIGURES, g_FIGURES⟩ := g_FIGURES
    have g_NOTHING : ∃ t, mg "NOTHING" = some (.str "0" t) := by
      refine' Tx.cst_mk KX G ?a ?e
      (case a => k_is)
      (case e => exact ⟨_, rfl⟩)
    obtain ⟨t_NOTHING, g_NOTHING⟩ := g_NOTHING
    have g_UNIT : ∃ t, mg "UNIT" = some (.str "()" t) := by
      refine' Tx.cst_mk KX G ?a ?e
      (case a => k_is)
      (case e => exact ⟨_, rfl⟩)
    obtain ⟨t_UNIT, g_UNIT⟩ := g_UNIT
    obtain ⟨t_FAR, g_FAR⟩ := Tx.far_of XL0 (i := 10 ^ 60) (by first | exact List.mem_cons_self | decide)
    refine' Tx.nonE (Tx.exck_mk (Tx.xo_mk KX G ?a2_40 ?x2_40 ?k2_40 ?b2_40 ?t2_40) (Tx.xo_mk KX G ?a3_40 ?x3_40 ?k3_40 ?b3_40 ?t3_40) (Tx.xo_mk KX G ?a4_40 ?x4_40 ?k4_40 ?b4_40 ?t4_40) (Tx.err_mk (z := ⟨_, _, _, _, _, _, _, _, _, _, _, _⟩) KX G ?gC_40 ?xL_40 ?rf_40 ?sa_40 ?noN_40 ?iC_40 ?tC_40 ?kC_40 ?exC_40 ?vaC_40 ?slf_40 ?tyC_40 ?te_40 ?ga_40 ?gg_40 ?hd_40 ?ou_40 ?up_40 ?sg_40 ?tp_40 ?lf_40 ?le_40 ?cf_40 ?zz_40 ?lc_40 ?vc_40 ?fc_40 ?lcc_40) ?h2_40 ?h3_40 ?h4_40 ?s21_40 ?s22_40 ?s31_40 ?s32_40 ?s33_40 ?s41_40 ?s42_40 ?s43_40 ?s44_40) fun E0 => ?r_40
    (case a2_40 => k_is); (case x2_40 => first | k_exc | k_is | kernel_rfl); (case k2_40 => k_is); (case b2_40 => k_is); (case t2_40 => k_is)
    (case a3_40 => k_is); (case x3_40 => first | k_exc | k_is | kernel_rfl); (case k3_40 => k_is); (case b3_40 => k_is); (case t3_40 => k_is)
    (case a4_40 => k_is); (case x4_40 => first | k_exc | k_is | kernel_rfl); (case k4_40 => k_is); (case b4_40 => k_is); (case t4_40 => k_is)
    (case gC_40 => k_is); (case xL_40 => k_is); (case rf_40 => first | rfl | decide | k_is | kernel_rfl); (case sa_40 => k_is); (case noN_40 => k_is); (case iC_40 => k_is); (case tC_40 => k_is); (case kC_40 => k_is)
    (case exC_40 => k_is); (case vaC_40 => k_is); (case slf_40 => k_is); (case tyC_40 => k_is); (case te_40 => first | k_is | kernel_rfl); (case ga_40 => k_is); (case gg_40 => k_is); (case hd_40 => k_is)
    (case ou_40 => first | k_is | kernel_rfl); (case up_40 => first | k_is | kernel_rfl); (case sg_40 => k_is); (case tp_40 => first | rfl | decide +kernel)
    (case lf_40 => k_is); (case le_40 => rfl); (case cf_40 => k_is); (case zz_40 => first | rfl | decide); (case lc_40 => k_is); (case vc_40 => first | rfl | k_is | kernel_rfl); (case fc_40 => first | rfl | decide +kernel); (case lcc_40 => k_is)
    (case h2_40 => k_is); (case h3_40 => k_is); (case h4_40 => k_is)
    (case s21_40 => k_is); (case s22_40 => k_is); (case s31_40 => k_is); (case s32_40 => k_is); (case s33_40 => k_is); (case s41_40 => k_is); (case s42_40 => k_is); (case s43_40 => k_is); (case s44_40 => k_is)
    refine Tx.law_at (S := { is_plain := D_is_plain, is_integer := D_is_integer, is_within := D_is_within, require_within := D_require_within, are_integers := D_are_integers, require_sign := D_require_sign, require_text := D_require_text, plain_at := D_plain_at, signed_at := D_signed_at, cycle_at := D_cycle_at, cycles_at := D_cycles_at, require_end := D_require_end, move_told := D_move_told, read_move := D_read_move, read_row := D_read_row, term_at := D_term_at, terms_at := D_terms_at, read_kinds := D_read_kinds, _law_bag := D__law_bag, _law_grab := D__law_grab, _law_one_of := D__law_one_of, _law_cycles := D__law_cycles, _law_move_drawn := D__law_move_drawn, _law_figures := D__law_figures, _law_cycles_from := D__law_cycles_from, _law_move_of := D__law_move_of, _law_move_text := D__law_move_text, _law_move_read := D__law_move_read, _law_near_text := D__law_near_text, _law_kinds_text := D__law_kinds_text, _law_met := D__law_met, _law_row_read := D__law_row_read, _law_term_from := D__law_term_from, _law_kinds_read := D__law_kinds_read, _law_number := D__law_number, b_isinstance := b_isinstance, b_int := b_int, b_bool := b_bool, b_str := b_str, b_tuple := b_tuple, b_list := b_list, b_len := b_len, b_min := b_min, b_max := b_max, b_range := b_range, b_enumerate := b_enumerate, b_any := b_any, b_all := b_all, b_sum := b_sum, b_abs := b_abs, t_MOST_SIGNS := t_MOST_SIGNS, g_MOST_SIGNS := g_MOST_SIGNS, t_MOST_MEMBERS := t_MOST_MEMBERS, g_MOST_MEMBERS := g_MOST_MEMBERS, t_MOST_PLACES := t_MOST_PLACES, g_MOST_PLACES := g_MOST_PLACES, t_MOST_FIGURES := t_MOST_FIGURES, g_MOST_FIGURES := g_MOST_FIGURES, t_FIGURES := t_FIGURES, g_FIGURES := g_FIGURES, t_NOTHING := t_NOTHING, g_NOTHING := g_NOTHING, t_UNIT := t_UNIT, g_UNIT := g_UNIT, t_FAR := t_FAR, g_FAR := g_FAR, x_InvalidMove := E0.xm, x_InvalidRow := E0.xr, x_InvalidKinds := E0.xk, c_ParseError := E0.c, i_ParseError := E0.i, e_ParseError := E0.e }) rfl ?metok8 ⟨L__law_moves_right, L__law_rows_right, L__law_kinds_right, L_law, by rw [e0, e1]; decide, by rw [e0, e2]; decide, by rw [e0, e3]; decide, by rw [e1, e2]; decide, by rw [e1, e3]; decide, by rw [e2, e3]; decide⟩ KX hmg ?tabs8
    (case metok8 => exact ⟨E0.e21, E0.e22, E0.e31, E0.e32, E0.e33, E0.e41, E0.e42, E0.e43, E0.e44⟩)
    (case tabs8 =>
      intro p hp
      simp only [Tx.Lg0.cs, List.mem_cons, List.not_mem_nil, or_false] at hp
      have hT := PySem.W.km_tabs_of Y
      rcases hp with rfl | rfl | rfl | rfl
      · exact hT _ (by rw [e0]; simp)
      · exact hT _ (by rw [e1]; simp)
      · exact hT _ (by rw [e2]; simp)
      · exact hT _ (by rw [e3]; simp))
