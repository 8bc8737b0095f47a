import PyProof.Rows.All
import Wide.All
import OpenK.AllK
import Wide.FinOn
import PyProof.EqAt
import PyProof.EqKinds
import PyProof.TupleCall
import KE.KExcSuper
import KE.KExcIs
import HandS.ForExc
import HandS.ExcInit
import HandS.HotCalls
import HandS.IsInst
import HandS.Comp
import HandS.Text
import HandS.Iter
import PySem.Challenge.RW_movedwhole_k01_errors
set_option Elab.async false
set_option linter.all false
set_option maxRecDepth 100000
set_option maxHeartbeats 4000000
/-! An own exception under another own one under ValueError, whose __init__ says super().__init__('..') and stores its arguments: made, by place and by name. -/
namespace MvX
open PySem PySem.W PySem.Calls PyProof.Rows PySem.HandSPX

/-! ### the text of such an __init__ -/
abbrev arg0 (x : Str) (p : Pos) : Arg := { arg := x, annotation := none, pos := p }
abbrev parsOf (as : List Arg) : Arguments := { posonlyargs := [], args := as, vararg := none, kwonlyargs := [], kw_defaults := [], kwarg := none, defaults := [] }
abbrev scopeOf (ns : List (Str × NameKind)) : Scope := { kind := .function, names := ns, isGenerator := false, isCoroutine := false, more := [] }
/-- super().__init__('m') -/
abbrev supS (m : Str) (q0 q1 q2 q3 q4 q5 : Pos) : Stmt := .Expr (.Call (.Attribute (.Call (.Name "super" q0) [] [] q1) "__init__" q2) [.Constant (.str m) 0 q3] [] q4) q5
/-- how its call is read: a method's call on one line (every instance: fun _ => ⟨_, rfl⟩) -/
abbrev SupOn (qual : Str) (sc : Scope) (fI cda cc : Addr) (m : Str) (q0 q1 q2 q3 q4 : Pos) : Prop := ∀ L : Addr, ∃ pl : Sem Bool,
  eval (.Call (.Attribute (.Call (.Name "super" q0) [] [] q1) "__init__" q2) [.Constant (.str m) 0 q3] [] q4) (ksEnv qual sc L fI (.ref cda) cc) = (do
    let ov ← attributeBase (.Call (.Name "super" q0) [] [] q1) "__init__" (ksEnv qual sc L fI (.ref cda) cc) (eval (.Call (.Name "super" q0) [] [] q1) (ksEnv qual sc L fI (.ref cda) cc))
    standAt q2.atName
    let (f, first) ← holding [ov] (getMethod ov "__init__" pl)
    callWith q4 f first (backTo q4 (starEach [.Constant (.str m) 0 q3] (ksEnv qual sc L fI (.ref cda) cc))) [])
/-- self.f = f -/
abbrev setS (f : Str) (q0 q1 q2 q3 : Pos) : Stmt := .Assign [.Attribute (.Name "self" q0) f q1] (.Name f q2) q3

/-- what the written part says of such a class at C, its __init__ at fI (its cell cc, its code cda) -/
structure ClsTxt (P : Program) (K : Frag) (mg : Str → Option Value) (C fI cc cda : Addr) (qual : Str) (pars : Arguments) (body : List Stmt) (sc : Scope) : Prop where
  cls : ∃ nm q N bs bm sn sub ab col dd k0 k1 k2 k3 k5, K.lookup C = some (excClassObj nm q C N bs bm true sn sub ab col dd k0 k1 k2 k3 k5 "ValueError.__new__") ∧ refsVE bm = true
  sa : findIn K (.ref C) "__setattr__" = some (some (.builtin "object.__setattr__"))
  ini : findIn K (.ref C) "__init__" = some (some (.ref fI))
  sup : ks_superIn K C C "__init__" = some (some (.builtin "ValueError.__init__"))
  third : nsIn K cStatics "thirdparty.any" = some none
  nsup : mg "super" = none
  fn : ∃ (oc : Value) (od : Option Addr) (doc pm : Value) (an : Option Addr) (ct : Value) (osl : Array (Option Value)),
    K.lookup fI = some ⟨oc, od, .func (ksFn "__init__" qual pars body sc .none .none doc pm an (.ref cda) ct cc), osl⟩ ∧ codeIn K (.ref cda) qual = true
  code : ∃ (ccl : Value) (cdd : Option Addr) (vs : Array Value) (ccs : Array (Option Value)) (file : Str) (tf : Tok), K.lookup cda = some ⟨ccl, cdd, .fields vs, ccs⟩ ∧ vs[2]? = some (.str file tf) ∧ ((P.main.file : Str) == file) = true
  cell : ∃ (cl : Value) (cld : Option Addr) (csl : Array (Option Value)), K.lookup cc = some ⟨cl, cld, .cell (some (.ref C)), csl⟩
  top : (P.main.scope.names.lookup ("super" : Str)).isSome = false

section
variable {prog : Program} {w : World} {A : Around} {E : Value → Shared → Prop} {s : Shared} {K : Frag} {mg mb : Str → Option Value} {C fI cc cda : Addr} {qual : Str} {pars : Arguments} {body : List Stmt} {sc : Scope}

/-- super().__init__('m') in such an __init__ -/
theorem sup_line (T : ClsTxt prog K mg C fI cc cda qual pars body sc) {L x t0 : Addr} {mL : Str → Option Value} {ps : List Arg} {ar : Arg} {nms : List (Str × NameKind)} {m : Str} {q0 q1 q2 q3 q4 q5 : Pos} {Q : Flow → Shared → Prop}
    (X : K.In s.heap) (G : s.heap.Ns mainGlobals mg) (Bn : s.heap.Ns builtinsNs mb) (hsu : mb "super" = some (.type "super")) (hL : s.heap.Ns L mL) (hx : s.heap.get? x = some (excO C t0))
    (hsc : sc = scopeOf nms) (hpar : pars = parsOf (ar :: ps)) (hv : mL ar.arg = some (.ref x)) (k1 : nms.lookup ("super" : Str) = some .globalImplicit) (k2 : nms.lookup ("__class__" : Str) = some .free) (k3 : nms.lookup ar.arg = some .local)
    (hev : SupOn qual sc fI cda cc m q0 q1 q2 q3 q4)
    (hq : ∀ h' t1 tk, (∀ b o, b ≠ x → s.heap.get? b = some o → h'.get? b = some o) → h'.get? x = some (excO C t1) → Q .next { s with heap := h', toks := tk }) :
    _root_.PySem.wpAt (model prog w) A (.func body (ksEnv qual sc L fI (.ref cda) cc)) (exec (supS m q0 q1 q2 q3 q4 q5) (ksEnv qual sc L fI (.ref cda) cc)) Q E s := by
  obtain ⟨oc, od, doc, pm, an, ct, osl, hfn, hcd⟩ := T.fn
  obtain ⟨ccl, cdd, vs, ccs, file, tf, hco, hvs, hfile⟩ := T.code
  obtain ⟨cl, cld, csl, hce⟩ := T.cell
  obtain ⟨nm, q, N, bs, bm, sn, sub, ab, col, dd, kk0, kk1, kk2, kk3, kk5, hC, hbm⟩ := T.cls
  have hcl : clsIn K C = some { name := nm, bases := bs, mro := .ref C :: bm, ns := N, qualname := q, hasDict := true, slotNames := sn, subclasses := sub, abstract := ab, collection := col, hasDel := false } := by unfold clsIn; rw [hC] <;> rfl
  have hself : mroIn K C (.ref C) = some true := by unfold mroIn; rw [hcl]; simp
  have hVE : subIn K (.ref C) (.type "ValueError") = some true := by
    show mroIn K C _ = _
    unfold mroIn
    rw [hcl]
    have z : (Value.ref C :: bm).contains (.type "ValueError") = true := by rw [List.contains_cons, refsVE_contains "ValueError" bm hbm, show veTail.contains (Value.type "ValueError") = true by decide +kernel, Bool.or_true]
    show (if (Value.ref C :: bm).isEmpty = true then none else some ((Value.ref C :: bm).contains (.type "ValueError"))) = some true
    rw [z]; rfl
  obtain ⟨pl, he0⟩ := hev L
  subst hsc
  obtain ⟨hp, g, d, t, os⟩ := s
  refine ks_wpAt_Expr_any ?_
  refine ks_wpAt_MethodCall (pl := pl) ?_ he0
  refine ks_wpAt_super_base (env := ksEnv qual (scopeOf nms) L fI (.ref cda) cc) (ar := ar) k1 k2 (by decide) rfl (X _ _ hfn) rfl (by subst hpar; rfl) rfl (X _ _ hco) rfl hvs hfile T.top ?_
  refine ks_loadName_global rfl k1 (loadGlobal_builtin (env := ksEnv qual (scopeOf nms) L fI (.ref cda) cc) G T.nsup Bn hsu ⟨rfl, ?_⟩)
  refine wpAny_loadName_free rfl k2 rfl ⟨_, X _ _ hce, rfl⟩ ?_
  refine wpAny_loadName_local rfl k3 hL hv ?_
  refine ks_wpAny_isType_cls (X _ _ hC) rfl ⟨rfl, ?_⟩
  refine ks_wpAny_call_super (X _ _ hC) rfl hx rfl (fun c e => by cases e) (looks_mroIn X hself) (fun h1 e1 k1' => ?_)
  have X1 : K.In h1 := X.keeps k1'
  have hx1 : h1.get? x = some (excO C t0) := k1' _ _ hx
  have I1 : InstAt h1 x (excO C t0) C none := ⟨hx1, rfl, rfl, trivial⟩
  have hI : Looks (model prog w) h1 (isInstance (.ref x) (.type "ValueError")) true := I1.type.andThen (looks_subIn X1 hVE)
  have hm : alongIn K "__init__" (((Value.ref C :: bm).dropWhile (· != .ref C)).drop 1) = some (some (.builtin "ValueError.__init__")) := by
    have z := T.sup
    unfold ks_superIn at z
    rw [hcl] at z
    exact z
  refine kxs_getMethod (l₀ := .ref C :: bm) kxs_ValueError e1 (looks_opaque X1 T.third) ((looks_clsIn X1 hcl).andThen .now) rfl X1 hm hI (ks_ne X1 I1 hcl) (by decide) ?_
  have hu : (h1.push (kxs_mw "ValueError.__init__" x)).get? h1.objs.size = some (kxs_mw "ValueError.__init__" x) := Heap.get?_push_size _ rfl
  have k2' : ∀ b o, hp.get? b = some o → (h1.push (kxs_mw "ValueError.__init__" x)).get? b = some o := fun b o e => Heap.get?_push_of_some _ (k1' b o e)
  show wpAny _ _ (callWith q4 (.ref h1.objs.size) [] (backTo q4 (starEach [Expr.Constant (.str m) 0 q3] (ksEnv qual (scopeOf nms) L fI (.ref cda) cc))) []) _ _ _
  have he : starEach [Expr.Constant (.str m) 0 q3] (ksEnv qual (scopeOf nms) L fI (.ref cda) cc) = (false, eval (.Constant (.str m) 0 q3) (ksEnv qual (scopeOf nms) L fI (.ref cda) cc)) :: starEach [] (ksEnv qual (scopeOf nms) L fI (.ref cda) cc) := rfl
  rw [he]
  refine kxs_callWith (i := "ValueError.__init__") (x := x) rfl (evalArgs_plain (spliced_cons (@Constant_str _ _ _ _ _ m 0 q3 _ (spliced_nil ⟨hu, ?_⟩))))
  show wpAny _ _ (call (.ref h1.objs.size) [Value.str m (t + 1)]) _ _ _
  have hC2 := k2' _ _ (X _ _ hC)
  have hx2 := k2' _ _ hx
  refine wpAny_call (codeAny_of_tree ?_)
  show wpAny _ A.in1 (callAny (.ref h1.objs.size) ⟨[Value.str m (t + 1)], []⟩) _ _ _
  simp only [callAny]
  refine wpAny_bind (wpAny_load hu ?_)
  simp only [kxs_mw, show (Value.type "method-wrapper" == Value.type "method" || Value.type "method-wrapper" == Value.type "builtin_function_or_method" || Value.type "method-wrapper" == Value.type "method-wrapper") = true by decide, if_true]
  refine KFB.if_so (by decide) ?_
  refine wpAny_bind (check_bound_init F.excBase_ValueError.toExcCallFacts hC2 hx2 rfl ?_)
  refine wpAny_bind (wpAny_pure (wpAny_pure ?_))
  refine ⟨plainId_quiet F.excBase_ValueError.init.plain _, codeAny_builtin F.excBase_ValueError.initEntry ?_⟩
  refine exc_init_tree (cls := .ref C) (t0 := t0) (dv := none) (c2 := .none) (c3 := .none) (b4 := .bool false) hx2 (by show 1 ≤ sizeLine; rw [sizeLine_eq]; omega) fun h3 k3' e3 _ => ?_
  exact hq h3 _ _ (fun b o hb e => k3' b o hb (k2' b o e)) e3

/-- the first self.f = f -/
theorem set_line1 {L x t0 : Addr} {f : Str} {v : Value} {mL : Str → Option Value} {nms : List (Str × NameKind)} {q0 q1 q2 q3 : Pos} {Q : Flow → Shared → Prop} {nm q : Str} {N : Addr} {bs bm : List Value} {sn : List Str} {sub : List Value} {ab : Bool} {col : Option Bool} {dd : Option Addr} {k0 k1 k2 k3 k5 : Option Value}
    (X : K.In s.heap) (hC : K.lookup C = some (excClassObj nm q C N bs bm true sn sub ab col dd k0 k1 k2 k3 k5 "ValueError.__new__")) (hbm : refsVE bm = true) (hsa : findIn K (.ref C) "__setattr__" = some (some (.builtin "object.__setattr__")))
    (no : findIn K (.ref C) f = some none) (hL : s.heap.Ns L mL) (hx : s.heap.get? x = some (excO C t0)) (hv : mL f = some v) (hs : mL "self" = some (.ref x)) (kf : nms.lookup f = some .local) (ks : nms.lookup ("self" : Str) = some .local) (hdb : (f == ("__debug__" : Str)) = false)
    (hq : ∀ h' tk dx, (∀ b o, b ≠ x → s.heap.get? b = some o → h'.get? b = some o) → s.heap.objs.size ≤ dx → dx ≠ x → h'.get? x = some { cls := .ref C, dict := some dx, data := .fields #[.ref t0, .none, .none, .none, .bool false, .none] } →
      h'.Ns1 dx (fun y => if y = f then some v else none) → Q .next { s with heap := h', toks := tk }) :
    wpAny (model prog w) A (exec (setS f q0 q1 q2 q3) (ksEnv qual (scopeOf nms) L fI (.ref cda) cc)) Q E s := by
  have hcl : clsIn K C = some { name := nm, bases := bs, mro := .ref C :: bm, ns := N, qualname := q, hasDict := true, slotNames := sn, subclasses := sub, abstract := ab, collection := col, hasDel := false } := by unfold clsIn; rw [hC] <;> rfl
  refine plainObj_wpAny_Assign_Attribute ?_
  refine wpAny_Name (wpAny_loadName_local rfl kf hL hv ?_) hdb
  refine wpAny_Name (wpAny_loadName_local rfl ks hL hs ?_) (by decide)
  refine set_plain X (ox := excO C t0) (od := none) ⟨hx, rfl, rfl, trivial⟩ hsa ?_
  exact exc_osa X hx hcl (show refsVE (.ref C :: bm) = true from hbm) rfl no fun h' tk' dx k dn dne hx' hn' => hq h' tk' dx k dn dne hx' hn'
/-- a further self.f = f -/
theorem set_line2 {L x t0 dx : Addr} {f : Str} {v : Value} {mL m0 : Str → Option Value} {nl : List Str} {nms : List (Str × NameKind)} {q0 q1 q2 q3 : Pos} {Q : Flow → Shared → Prop} {nm q : Str} {N : Addr} {bs bm : List Value} {sn : List Str} {sub : List Value} {ab : Bool} {col : Option Bool} {dd : Option Addr} {k0 k1 k2 k3 k5 : Option Value}
    (X : K.In s.heap) (hC : K.lookup C = some (excClassObj nm q C N bs bm true sn sub ab col dd k0 k1 k2 k3 k5 "ValueError.__new__")) (hbm : refsVE bm = true) (hsa : findIn K (.ref C) "__setattr__" = some (some (.builtin "object.__setattr__")))
    (no : findIn K (.ref C) f = some none) (hL : s.heap.Ns L mL) (hx : s.heap.get? x = some { cls := .ref C, dict := some dx, data := .fields #[.ref t0, .none, .none, .none, .bool false, .none] }) (hns : s.heap.Ns1 dx m0) (hw : Within m0 nl) (hz : nl.length ≤ 1000)
    (hv : mL f = some v) (hs : mL "self" = some (.ref x)) (kf : nms.lookup f = some .local) (ks : nms.lookup ("self" : Str) = some .local) (hdb : (f == ("__debug__" : Str)) = false)
    (hq : ∀ h' tk, (∀ b o, b ≠ dx → s.heap.get? b = some o → h'.get? b = some o) → h'.Ns1 dx (fun y => if y = f then some v else m0 y) → Q .next { s with heap := h', toks := tk }) :
    wpAny (model prog w) A (exec (setS f q0 q1 q2 q3) (ksEnv qual (scopeOf nms) L fI (.ref cda) cc)) Q E s := by
  have hcl : clsIn K C = some { name := nm, bases := bs, mro := .ref C :: bm, ns := N, qualname := q, hasDict := true, slotNames := sn, subclasses := sub, abstract := ab, collection := col, hasDel := false } := by unfold clsIn; rw [hC] <;> rfl
  obtain ⟨oD, _, _, hoD, _, _⟩ := hns.count hw
  refine plainObj_wpAny_Assign_Attribute ?_
  refine wpAny_Name (wpAny_loadName_local rfl kf hL hv ?_) hdb
  refine wpAny_Name (wpAny_loadName_local rfl ks hL hs ?_) (by decide)
  refine set_plain X (ox := { cls := .ref C, dict := some dx, data := .fields #[.ref t0, .none, .none, .none, .bool false, .none] }) (od := some oD) ⟨hx, rfl, rfl, hoD⟩ hsa ?_
  exact OEX.osa_old X hx hns hw hz hcl (show refsVE (.ref C :: bm) = true from hbm) rfl no fun h' tk' k hn => hq h' tk' k hn

theorem kin_but {h h' : Heap} {x : Addr} (X : K.In h) (hx : K.lookup x = none) (k : ∀ b o, b ≠ x → h.get? b = some o → h'.get? b = some o) : K.In h' := fun a o e =>
  k a o (fun z => by rw [z, hx] at e; cases e) (X a o e)
theorem ns_but {h h' : Heap} {x L : Addr} {o : Obj} {vs : Array Value} {m : Str → Option Value} (n : h.Ns L m) (hx : h.get? x = some o) (hd : o.data = .fields vs) (k : ∀ b o, b ≠ x → h.get? b = some o → h'.get? b = some o) : h'.Ns L m := by
  obtain ⟨oL, es, ep, hL, hdL, r⟩ := n
  refine ⟨oL, es, ep, k _ _ (fun z => ?_) hL, hdL, r⟩
  rw [z, hx] at hL
  cases hL
  rw [hd] at hdL
  cases hdL

/-- what such an __init__ leaves of a fresh exception at x -/
structure InitEnd (h h' : Heap) (x C dx : Addr) (m : Str → Option Value) : Prop where
  keep : ∀ b o, b ≠ x → h.get? b = some o → h'.get? b = some o
  obj : ∃ t1 : Addr, h'.get? x = some { cls := .ref C, dict := some dx, data := .fields #[.ref t1, .none, .none, .none, .bool false, .none] }
  dbig : h.objs.size ≤ dx
  dne : dx ≠ x
  ns : h'.Ns1 dx m

/-- __init__ with one field -/
theorem init_one {f m : Str} {ps : List Arg} {ar : Arg} {nms : List (Str × NameKind)} {q0 q1 q2 q3 q4 q5 r0 r1 r2 r3 : Pos} (T : ClsTxt prog K mg C fI cc cda qual (parsOf (ar :: ps)) [supS m q0 q1 q2 q3 q4 q5, setS f r0 r1 r2 r3] (scopeOf nms))
    {x t0 : Addr} {v : Value} {args : Args} {binds : List (Str × Value)} {R : Result → Shared → Prop}
    (X : K.In s.heap) (hlim : s.heap.NoLimit) (G : s.heap.Ns mainGlobals mg) (Bn : s.heap.Ns builtinsNs mb) (hsu : mb "super" = some (.type "super")) (hx : s.heap.get? x = some (excO C t0)) (hnx : K.lookup x = none) (hroom : A.depth < recursionLimit)
    (no : findIn K (.ref C) f = some none) (hev : SupOn qual (scopeOf nms) fI cda cc m q0 q1 q2 q3 q4)
    (hbind : ∀ fd, (∃ doc pm an ct, fd = ksFn "__init__" qual (parsOf (ar :: ps)) [supS m q0 q1 q2 q3 q4 q5, setS f r0 r1 r2 r3] (scopeOf nms) .none .none doc pm an (.ref cda) ct cc) → BindsTo s fd args binds)
    (hcell : ∀ y ∈ nms, y.2 ≠ .cell) (hloc : ∀ y ∈ binds, nms.lookup y.1 = some .local)
    (har : binds.reverse.lookup ar.arg = some (.ref x)) (hself : binds.reverse.lookup ("self" : Str) = some (.ref x)) (hf : binds.reverse.lookup f = some v)
    (k1 : nms.lookup ("super" : Str) = some .globalImplicit) (k2 : nms.lookup ("__class__" : Str) = some .free) (k3 : nms.lookup ar.arg = some .local) (kf : nms.lookup f = some .local) (ks : nms.lookup ("self" : Str) = some .local) (hdb : (f == ("__debug__" : Str)) = false)
    (hq : ∀ h' tk dx, InitEnd s.heap h' x C dx (fun y => if y = f then some v else none) → R (.ok (.ret .none)) { s with heap := h', toks := tk }) :
    codeAny (model prog w) A (.call (.ref fI) args) R s := by
  obtain ⟨oc, od, doc, pm, an, ct, osl, hfn, hcd⟩ := T.fn
  obtain ⟨nm, q, N, bs, bm, sn, sub, ab, col, dd, kk0, kk1, kk2, kk3, kk5, hC, hbm⟩ := T.cls
  refine ks_codeAny_call_defAt (fd := ksFn "__init__" qual (parsOf (ar :: ps)) [supS m q0 q1 q2 q3 q4 q5, setS f r0 r1 r2 r3] (scopeOf nms) .none .none doc pm an (.ref cda) ct cc) (body := [supS m q0 q1 q2 q3 q4 q5, setS f r0 r1 r2 r3]) (binds := binds) hroom (X _ _ hfn) rfl hlim (codeRec_of X hcd) rfl (hbind _ ⟨_, _, _, _, rfl⟩) hcell hloc (fun h1 hns k1' => ?_)
  have X1 : K.In h1 := X.keeps k1'
  have hx1 := k1' _ _ hx
  refine ks_wpAt_execs_cons ?_
  refine sup_line T (L := s.heap.objs.size) (s := { s with heap := h1, toks := s.toks + binds.length }) X1 (G.keeps k1') (Bn.keeps k1') hsu hns hx1 rfl rfl har k1 k2 k3 hev fun h2 t1 tk2 k2' hx2 => ?_
  refine wpAt_of_wpAny (wpAny_execs_cons ?_)
  refine set_line1 (s := { s with heap := h2, toks := tk2 }) (t0 := t1) (kin_but X1 hnx k2') hC hbm T.sa no (ns_but hns hx1 rfl k2') hx2 hf hself kf ks hdb fun h3 tk3 dx k3' dn dne hx3 hn3 => ?_
  have z1 : s.heap.objs.size < h1.objs.size := hns.lt
  have z2 : s.heap.objs.size ≤ h2.objs.size := Nat.le_of_lt ((ns_but hns hx1 rfl k2').lt)
  exact wpAny_execs_nil (hq h3 tk3 dx ⟨fun b o hb e => k3' b o hb (k2' b o hb (k1' b o e)), ⟨t1, hx3⟩, Nat.le_trans z2 dn, dne, hn3⟩)

/-- __init__ with two fields -/
theorem init_two {f f2 m : Str} {ps : List Arg} {ar : Arg} {nms : List (Str × NameKind)} {q0 q1 q2 q3 q4 q5 r0 r1 r2 r3 u0 u1 u2 u3 : Pos} (T : ClsTxt prog K mg C fI cc cda qual (parsOf (ar :: ps)) [supS m q0 q1 q2 q3 q4 q5, setS f r0 r1 r2 r3, setS f2 u0 u1 u2 u3] (scopeOf nms))
    {x t0 : Addr} {v v2 : Value} {args : Args} {binds : List (Str × Value)} {R : Result → Shared → Prop}
    (X : K.In s.heap) (hlim : s.heap.NoLimit) (G : s.heap.Ns mainGlobals mg) (Bn : s.heap.Ns builtinsNs mb) (hsu : mb "super" = some (.type "super")) (hx : s.heap.get? x = some (excO C t0)) (hnx : K.lookup x = none) (hroom : A.depth < recursionLimit)
    (no : findIn K (.ref C) f = some none) (no2 : findIn K (.ref C) f2 = some none) (hev : SupOn qual (scopeOf nms) fI cda cc m q0 q1 q2 q3 q4)
    (hbind : ∀ fd, (∃ doc pm an ct, fd = ksFn "__init__" qual (parsOf (ar :: ps)) [supS m q0 q1 q2 q3 q4 q5, setS f r0 r1 r2 r3, setS f2 u0 u1 u2 u3] (scopeOf nms) .none .none doc pm an (.ref cda) ct cc) → BindsTo s fd args binds)
    (hcell : ∀ y ∈ nms, y.2 ≠ .cell) (hloc : ∀ y ∈ binds, nms.lookup y.1 = some .local)
    (har : binds.reverse.lookup ar.arg = some (.ref x)) (hself : binds.reverse.lookup ("self" : Str) = some (.ref x)) (hf : binds.reverse.lookup f = some v) (hf2 : binds.reverse.lookup f2 = some v2)
    (k1 : nms.lookup ("super" : Str) = some .globalImplicit) (k2 : nms.lookup ("__class__" : Str) = some .free) (k3 : nms.lookup ar.arg = some .local) (kf : nms.lookup f = some .local) (kf2 : nms.lookup f2 = some .local) (ks : nms.lookup ("self" : Str) = some .local)
    (hdb : (f == ("__debug__" : Str)) = false) (hdb2 : (f2 == ("__debug__" : Str)) = false)
    (hq : ∀ h' tk dx, InitEnd s.heap h' x C dx (fun y => if y = f2 then some v2 else if y = f then some v else none) → R (.ok (.ret .none)) { s with heap := h', toks := tk }) :
    codeAny (model prog w) A (.call (.ref fI) args) R s := by
  obtain ⟨oc, od, doc, pm, an, ct, osl, hfn, hcd⟩ := T.fn
  obtain ⟨nm, q, N, bs, bm, sn, sub, ab, col, dd, kk0, kk1, kk2, kk3, kk5, hC, hbm⟩ := T.cls
  refine ks_codeAny_call_defAt (fd := ksFn "__init__" qual (parsOf (ar :: ps)) [supS m q0 q1 q2 q3 q4 q5, setS f r0 r1 r2 r3, setS f2 u0 u1 u2 u3] (scopeOf nms) .none .none doc pm an (.ref cda) ct cc) (body := [supS m q0 q1 q2 q3 q4 q5, setS f r0 r1 r2 r3, setS f2 u0 u1 u2 u3]) (binds := binds) hroom (X _ _ hfn) rfl hlim (codeRec_of X hcd) rfl (hbind _ ⟨_, _, _, _, rfl⟩) hcell hloc (fun h1 hns k1' => ?_)
  have X1 : K.In h1 := X.keeps k1'
  have hx1 := k1' _ _ hx
  refine ks_wpAt_execs_cons ?_
  refine sup_line T (L := s.heap.objs.size) (s := { s with heap := h1, toks := s.toks + binds.length }) X1 (G.keeps k1') (Bn.keeps k1') hsu hns hx1 rfl rfl har k1 k2 k3 hev fun h2 t1 tk2 k2' hx2 => ?_
  have X2 : K.In h2 := kin_but X1 hnx k2'
  have hns2 := ns_but hns hx1 rfl k2'
  refine wpAt_of_wpAny (wpAny_execs_cons ?_)
  refine set_line1 (s := { s with heap := h2, toks := tk2 }) (t0 := t1) X2 hC hbm T.sa no hns2 hx2 hf hself kf ks hdb fun h3 tk3 dx k3' dn dne hx3 hn3 => ?_
  have z1 : s.heap.objs.size ≤ h2.objs.size := Nat.le_of_lt hns2.lt
  have hns3 := ns_but hns2 hx2 rfl k3'
  refine wpAny_execs_cons ?_
  refine set_line2 (s := { s with heap := h3, toks := tk3 }) (t0 := t1) (dx := dx) (kin_but X2 hnx k3') hC hbm T.sa no2 hns3 hx3 hn3 (Within.cons f v Within.nil) (by simp) hf2 hself kf2 ks hdb2 fun h4 tk4 k4' hn4 => ?_
  have old : ∀ b o, s.heap.get? b = some o → b ≠ dx := fun b o e => Nat.ne_of_lt (Nat.lt_of_lt_of_le (Heap.lt_size e) (Nat.le_trans z1 dn))
  exact wpAny_execs_nil (hq h4 tk4 dx ⟨fun b o hb e => k4' b o (old b o e) (k3' b o hb (k2' b o hb (k1' b o e))), ⟨t1, k4' _ _ (Ne.symm dne) hx3⟩, Nat.le_trans z1 dn, dne, hn4⟩)
end

/-! ### type.__call__ on such a class, with keywords -/
section
variable {M : Model} {A : Around} {E : Value → Shared → Prop} {h : Heap} {g : Array GenState} {d : Drawn} {t : Nat} {os : OsState}
variable {nm q : Str} {C N : Addr} {bs bm : List Value} {hdct : Bool} {sn : List Str} {sub : List Value} {ab : Bool} {col : Option Bool} {dd : Option Addr} {k0 k1 k2 k3 k5 : Option Value}
theorem check_newK (hbm : refsVE bm = true) {rest : List Value} {kw : List (Str × Value)} {Q : Unit → Shared → Prop}
    (hC : h.get? C = some (excClassObj nm q C N bs bm hdct sn sub ab col dd k0 k1 k2 k3 k5 "ValueError.__new__")) (hq : Q () ⟨h, g, d, t, os⟩) : wpAny M A (checkBuiltinCall "ValueError.__new__" ⟨.ref C :: rest, kw⟩) Q E ⟨h, g, d, t, os⟩ := by
  have F := PySem.F.excBase_ValueError
  have hcont : (Value.ref C :: bm).contains (.type "ValueError") = true := by rw [List.contains_cons, refsVE_contains "ValueError" bm hbm, F.hasB, Bool.or_true]
  have args : Bind.checkArgs "ValueError.__new__" ⟨.any, "ValueError", "ValueError", .cls, [⟨"args", .varPos, false⟩, ⟨"kwargs", .varKw, false⟩]⟩ ⟨.ref C :: rest, kw⟩ = pure () := by kernel_rfl
  simp only [checkBuiltinCall, F.newKind, F.newSplit, F.newRow]
  rw [args]
  repeat (first | (refine wpAny_loadPart_at hC ?_) | (refine wpAny_isSubtype_exc hC ?_; rw [hcont]) | (refine wpAny_staticBase_exc hC ?_) | (refine wpAny_madeBy_exc hC ?_) | simp only [bne_self_eq_false, Bool.false_eq_true, if_false] | wp_step)
  all_goals exact hq
end
section
variable {prog : Program} {w : World} {A : Around} {E : Value → Shared → Prop} {R : Result → Shared → Prop} {h : Heap} {g : Array GenState} {d : Drawn} {t : Nat} {os : OsState}
variable {nm q : Str} {C N : Addr} {bs bm : List Value} {hdct : Bool} {sn : List Str} {sub : List Value} {ab : Bool} {col : Option Bool} {dd : Option Addr} {k0 k1 k2 k3 k5 : Option Value}
theorem new_kw (hbm : refsVE bm = true) {rest : List Value} {kw : List (Str × Value)}
    (hC : h.get? C = some (excClassObj nm q C N bs bm hdct sn sub ab col dd k0 k1 k2 k3 k5 "ValueError.__new__")) (hrest : rest.length ≤ sizeLine)
    (hq : R (.ok (.ret (.ref (h.objs.size + 1)))) ⟨(h.push (kdv_tup rest)).push (excO C h.objs.size), g, d, t, os⟩) :
    codeAny (model prog w) A (.builtin "ValueError.__new__" ⟨.ref C :: rest, kw⟩) R ⟨h, g, d, t, os⟩ := by
  have F := PySem.F.excBase_ValueError
  have hends := F.ends
  have cB : (Value.ref C :: bm).contains (.type "ValueError") = true := by rw [List.contains_cons, refsVE_contains "ValueError" bm hbm, F.hasB, Bool.or_true]
  have cA : (Value.ref C :: bm).contains (.type "AttributeError") = false := by rw [List.contains_cons, refsVE_contains "AttributeError" bm hbm, F.noAttr]; rfl
  have cN : (Value.ref C :: bm).contains (.type "NameError") = false := by rw [List.contains_cons, refsVE_contains "NameError" bm hbm, F.noName]; rfl
  refine codeAny_builtinAt F.entry ?_
  unfold Builtin.«BaseException.__new__»
  refine PySem.wpAt_bind ?_
  show _root_.PySem.wpAt _ _ _ (stack >>= _) _ _ _
  refine PySem.wpAt_bind (PySem.wpAt_stack fun p below => PySem.wpAt_of_wpAny ?_)
  wp_walk
  refine PySem.wpAt_of_wpAny ?_
  rw [F.owner]
  repeat (first | (with_reducible refine wpAny_madeHere_exc F.canon hC ?_) | (with_reducible refine wpAny_loadPart_at hC ?_) | (with_reducible refine wpAny_isSubtype_exc hC ?_; first | rw [cB] | rw [cA] | rw [cN]) | wp_step)
  show R _ _
  rw [Heap.size_push]
  exact hq
theorem type_call_kw (hbm : refsVE bm = true) {rest : List Value} {kw : List (Str × Value)} {fI : Addr} {Q : Fin → Shared → Prop}
    (hC : h.get? C = some (excClassObj nm q C N bs bm hdct sn sub ab col dd k0 k1 k2 k3 k5 "ValueError.__new__"))
    (hi : Looks (model prog w) h (typeLookup (.ref C) "__init__") (some (.ref fI))) (hb : ∀ self, Looks (model prog w) h (bindSpecial (.ref fI) self) (.ref fI, [self])) (hrest : rest.length ≤ sizeLine)
    (hq : codeAny (model prog w) A (.call (.ref fI) ⟨.ref (h.objs.size + 1) :: rest, kw⟩)
      (fun r s' => match r with | .ok (.ret v) => v = .none ∧ Q (.done (.ret (.ref (h.objs.size + 1)))) s' | .ok _ => False | .error e => E e s')
      ⟨(h.push (kdv_tup rest)).push (excO C h.objs.size), g, d, t, os⟩) :
    wpAny (model prog w) A (Builtin.«type.__call__» ⟨.ref C :: rest, kw⟩) Q E ⟨h, g, d, t, os⟩ := by
  have F := PySem.F.excBase_ValueError
  repeat (first | (with_reducible refine wpAny_loadPart_at hC ?_) | (with_reducible refine wpAny_madeBy_exc hC ?_) | wp_step)
  refine codeAny_call_builtin_code (Code.quiet_builtin _ F.quiet) (check_newK hbm hC ?_)
  refine new_kw hbm hC hrest ?_
  show wpAny _ _ _ _ _ _
  have k : ∀ b o, h.get? b = some o → ((h.push (kdv_tup rest)).push (excO C h.objs.size)).get? b = some o := fun b o e => Heap.get?_push_of_some _ (Heap.get?_push_of_some _ e)
  have hC₁ := k _ _ hC
  have hget : ((h.push (kdv_tup rest)).push (excO C h.objs.size)).get? (h.objs.size + 1) = some (excO C h.objs.size) := by heap_get
  have hcC : (Value.ref C :: bm).contains (.ref C) = true := by simp
  have i1 := hi.keeps k
  have b1 := (hb (.ref (h.objs.size + 1))).keeps k
  unfold isInstance
  repeat (first | (with_reducible refine wpAny_loadPart_at hget ?_) | (with_reducible refine wpAny_isSubtype_exc hC₁ ?_; rw [hcC]) | wp_step)
  show wpAny _ _ (typeLookup (.ref C) _) _ _ _
  refine i1.at ?_
  refine wpAny_holding (wpAny_bind (b1.at ?_))
  refine wpAny_bind (wpAny_call (codeAny_mono hq fun r s' z => ?_))
  rcases r with e | (v | _ | _ | _) <;> first | exact z | exact z.elim | skip
  obtain ⟨rfl, z⟩ := z
  first
    | exact wpAny_pure (wpAny_pure z)
    | (wp_walk; exact z)
theorem call_kw {K : Frag} (X : K.In h) (hbm : refsVE bm = true) {rest : List Value} {kw : List (Str × Value)} {fI : Addr}
    (hK : K.lookup C = some (excClassObj nm q C N bs bm hdct sn sub ab col dd k0 k1 k2 k3 k5 "ValueError.__new__")) (hit : instIn K (.ref C) (.type "type") = some true)
    (hi : Looks (model prog w) h (typeLookup (.ref C) "__init__") (some (.ref fI))) (hb : ∀ self, Looks (model prog w) h (bindSpecial (.ref fI) self) (.ref fI, [self])) (hrest : rest.length ≤ sizeLine)
    (hq : codeAny (model prog w) (A.under (.builtin "type.__call__" ⟨.ref C :: rest, kw⟩)) (.call (.ref fI) ⟨.ref (h.objs.size + 1) :: rest, kw⟩) (InitBack (h.objs.size + 1) R)
      ⟨(h.push (kdv_tup rest)).push (excO C h.objs.size), g, d, t, os⟩) :
    codeAny (model prog w) A (.call (.ref C) ⟨rest, kw⟩) R ⟨h, g, d, t, os⟩ := by
  have hC := X _ _ hK
  have f1 := tc_lookup
  have f2 := tc_bind (.ref C)
  have hTy : (⟨h, g, d, t, os⟩ : Shared).TypeIs (.ref C) "type" := ⟨_, hC, rfl⟩
  have typ : Looks (model prog w) h (isInstance (.ref C) (.type "type")) true := looks_instIn X hit
  refine codeAny_of_tree ?_
  show wpAny _ _ (callAny (.ref C) _) _ _ _
  repeat (any_goals (first | assumption | (with_reducible refine wpAny_loadPart_at hC ?_) | wp_step))
  refine ⟨rfl, ?_⟩
  refine codeAny_call_builtin_at (Code.quiet_builtin _ (by decide +kernel)) entry_typeCall (check_slot tc_kind tc_split typ (tc_args _ _ _) (type_call_kw hbm hC hi hb hrest ?_))
  refine codeAny_mono hq fun r s' z => ?_
  rcases r with e | (v | _ | _ | _) <;> exact z
end
end MvX
/-! The layer's rules for such exceptions: made as values, raised, their fields read, isinstance of them; a def called in an except suite with the caught one. -/
namespace MvX
open PySem PySem.W PySem.Calls PyProof.Rows PySem.HandSPX
/-- a made exception -/
structure Made (h h' : Heap) (e C d : Addr) (m : Str → Option Value) : Prop where
  keep : ∀ b o, h.get? b = some o → h'.get? b = some o
  new : h.objs.size ≤ e
  obj : ∃ t1 : Addr, h'.get? e = some { cls := .ref C, dict := some d, data := .fields #[.ref t1, .none, .none, .none, .bool false, .none] }
  dbig : h.objs.size ≤ d
  dne : d ≠ e
  ns : h'.Ns1 d m
/-- the class at C called with these arguments makes an exception with the fields m -/
def Makes (P : Program) (w : World) (K : Frag) (mg : Str → Option Value) (C : Addr) (pos : List Value) (kw : List (Str × Value)) (m : Str → Option Value) : Prop :=
  ∀ (A : Around) (s : Shared) (mb : Str → Option Value) (R : Result → Shared → Prop), K.In s.heap → s.heap.NoLimit → s.heap.Ns mainGlobals mg → s.heap.Ns builtinsNs mb → mb "super" = some (.type "super") → A.depth + 1 < recursionLimit →
    (∀ h' tk e d, Made s.heap h' e C d m → R (.ok (.ret (.ref e))) { s with heap := h', toks := tk }) → codeAny (model P w) A (.call (.ref C) ⟨pos, kw⟩) R s
section
variable {P : Program} {w : World} {K : Frag} {mg : Str → Option Value} {C fI cc cda : Addr} {qual : Str} {pars : Arguments} {body : List Stmt} {sc : Scope}
theorem makes_by (T : ClsTxt P K mg C fI cc cda qual pars body sc) (hit : instIn K (.ref C) (.type "type") = some true) (tI : typeIn K (.ref fI) = some (.type "function")) {pos : List Value} {kw : List (Str × Value)} {m : Str → Option Value} (hpos : pos.length ≤ sizeLine)
    (hinit : ∀ (A : Around) (s : Shared) (mb : Str → Option Value) (x t0 : Addr) (R : Result → Shared → Prop), K.In s.heap → s.heap.NoLimit → s.heap.Ns mainGlobals mg → s.heap.Ns builtinsNs mb → mb "super" = some (.type "super") → s.heap.get? x = some (excO C t0) → K.lookup x = none → A.depth < recursionLimit →
      (∀ h' tk dx, InitEnd s.heap h' x C dx m → R (.ok (.ret .none)) { s with heap := h', toks := tk }) → codeAny (model P w) A (.call (.ref fI) ⟨.ref x :: pos, kw⟩) R s) :
    Makes P w K mg C pos kw m := by
  intro A s mb R X hlim G Bn hsu hroom hq
  obtain ⟨nm, q, N, bs, bm, sn, sub, ab, col, dd, k0, k1, k2, k3, k5, hC, hbm⟩ := T.cls
  obtain ⟨hp, g, dr, tk, os⟩ := s
  have k : ∀ b o, hp.get? b = some o → ((hp.push (kdv_tup pos)).push (excO C hp.objs.size)).get? b = some o := fun b o e => Heap.get?_push_of_some _ (Heap.get?_push_of_some _ e)
  have hget : ((hp.push (kdv_tup pos)).push (excO C hp.objs.size)).get? (hp.objs.size + 1) = some (excO C hp.objs.size) := by heap_get
  have hnx : K.lookup (hp.objs.size + 1) = none := by
    cases e : K.lookup (hp.objs.size + 1) with
    | none => rfl
    | some o =>
      have z : hp.get? (hp.objs.size + 1) = some o := X _ _ e
      exact absurd (Nat.lt_of_succ_lt (Heap.lt_size z)) (Nat.lt_irrefl _)
  refine call_kw X hbm hC hit (looks_findIn X T.ini) (fun self => bind_fn X self tI) hpos ?_
  refine hinit _ ⟨(hp.push (kdv_tup pos)).push (excO C hp.objs.size), g, dr, tk, os⟩ mb _ _ _ (X.keeps k) (hlim.keeps k) (G.keeps k) (Bn.keeps k) hsu hget hnx ?_ fun h' tk' dx Z => ?_
  · show A.depth + 1 < recursionLimit
    exact hroom
  · obtain ⟨k', hx, dn, dne, hns⟩ := Z
    have old : ∀ b o, hp.get? b = some o → h'.get? b = some o := fun b o e => k' b o (Nat.ne_of_lt (Nat.lt_succ_of_lt (Heap.lt_size e))) (k b o e)
    have z : hp.objs.size + 1 + 1 ≤ dx := by
      have q := dn
      rw [Heap.size_push, Heap.size_push] at q
      exact q
    exact ⟨rfl, hq h' tk' (hp.objs.size + 1) dx ⟨old, Nat.le_succ _, hx, Nat.le_trans (Nat.le_trans (Nat.le_succ _) (Nat.le_succ _)) z, dne, hns⟩⟩
end
end MvX

namespace Mv
open PySem PySem.Spec PyProof.Rows L2 MvX
abbrev St := L2.St
/-! ### an exception that is held -/
def exq (a C d : Addr) : HO := .ext fun h => ∃ (oe : Obj) (vs : Array Value), h.get? a = some oe ∧ oe.cls = .ref C ∧ oe.dict = some d ∧ oe.data = .fields vs
theorem exq_ok {P : Program} {w : World} {H : Hp} {h : Heap} {a C d : Addr} {oe : Obj} {vs : Array Value} (e : h.get? a = some oe) (c : oe.cls = .ref C) (dd : oe.dict = some d) (dt : oe.data = .fields vs) : ObjOk P w H h a (exq a C d) :=
  ⟨⟨oe, vs, e, c, dd, dt⟩, ⟨oe, e⟩, fun _ _ ⟨o, v, q, r⟩ k => ⟨o, v, k o q, r⟩⟩
theorem exq_at {P : Program} {w : World} {H : Hp} {h : Heap} {a C d : Addr} (hok : HOk P w H h) (he : H a = some (exq a C d)) : ∃ (oe : Obj) (vs : Array Value), h.get? a = some oe ∧ oe.cls = .ref C ∧ oe.dict = some d ∧ oe.data = .fields vs := by
  have x : ObjOk P w H h a (.ext fun h => ∃ (oe : Obj) (vs : Array Value), h.get? a = some oe ∧ oe.cls = .ref C ∧ oe.dict = some d ∧ oe.data = .fields vs) := hok a _ he
  exact x.1
theorem xd_at {P : Program} {w : World} {H : Hp} {h : Heap} {d : Addr} {fs : List (Str × V)} (hok : HOk P w H h) (he : H d = some (.xd fs)) : ∃ mA, h.Ns1 d mA ∧ ∀ f, RelO (fs.lookup f) (mA f) := hok d _ he
section
variable {X : Cx} {pins : List (Addr × Obj)} {σ : St} {H : Hp} {s : Shared}
/-- a made exception and its dict are laid -/
theorem laid2 {h' : Heap} {e C d : Addr} {m : Str → Option Value} {fs : List (Str × V)} {tk : Nat} (I : Inv X pins σ H s) (M : Made s.heap h' e C d m) (r : ∀ f, RelO (fs.lookup f) (m f)) :
    H e = none ∧ H d = none ∧ Inv X pins σ (upd (upd H d (.xd fs)) e (exq e C d)) { s with heap := h', toks := tk } := by
  have he : H e = none := I.hok.fresh M.new
  have hd : H d = none := I.hok.fresh M.dbig
  have ob : ObjOk X.prog X.w (upd H d (.xd fs)) h' d (.xd fs) := ⟨m, M.ns, r⟩
  have I1 : Inv X pins σ (upd H d (.xd fs)) { s with heap := h', toks := tk } := I.laid (t' := tk) M.keep M.dbig ob
  have he1 : upd H d (.xd fs) e = none := by rw [upd_ne (Ne.symm M.dne)]; exact he
  obtain ⟨t1, ho⟩ := M.obj
  refine ⟨he, hd, ?_⟩
  have neE : ∀ b o, s.heap.get? b = some o → b ≠ e := fun b o q => Nat.ne_of_lt (Nat.lt_of_lt_of_le (Heap.lt_size q) M.new)
  have U : Un X.fs [] H (upd (upd H d (.xd fs)) e (exq e C d)) s.heap h' := {
    keep := fun b u q _ _ _ => M.keep b u q
    slot := fun b u q _ _ _ => ⟨u.slots, M.keep b u q⟩
    free := fun b u q n _ => by
      rw [upd_ne (neE b u q), upd_ne (Nat.ne_of_lt (Nat.lt_of_lt_of_le (Heap.lt_size q) M.dbig))]
      exact n
    there := fun b u q _ => ⟨u, M.keep b u q⟩
    tups := fun b xs q => by rw [upd_ne (ne_of_none q he), upd_ne (ne_of_none q hd)]; exact q
    frzs := fun b u xs q => by rw [upd_ne (ne_of_none q he), upd_ne (ne_of_none q hd)]; exact q
    tbls := fun b ps q => ⟨#[], by rw [upd_ne (ne_of_none q he), upd_ne (ne_of_none q hd), q]; simp⟩ }
  refine I.un (t' := tk) U fun b u q => ?_
  by_cases hb : b = e
  · subst hb
    rw [upd_same] at q
    cases q
    exact exq_ok ho rfl rfl rfl
  · rw [upd_ne hb] at q
    exact (I1.hok b u q).stay (fun c v _ z => z) (fun c z => by rw [upd_ne (ne_of_none z he1)]; exact z) fun c xs z => by rw [upd_ne (ne_of_none z he1)]; exact z
theorem super_at (I : Inv X pins σ H s) : ∃ mb, s.heap.Ns builtinsNs mb ∧ mb "super" = some (.type "super") := by
  obtain ⟨mb, h1, h2⟩ := I.ok.mod.blt
  exact ⟨mb, h1.keeps I.bk, (h2 "super" (by decide +kernel)).trans (by decide +kernel)⟩
end

/-- what a call of such a class is for: n arguments vs become the fields fs vs -/
structure Mkr (P : Program) (w : World) (K : PySem.W.Frag) (mg : Str → Option Value) (C : Addr) (n : Nat) (ks : List Str) (fs : List V → List (Str × V)) : Prop where
  run : ∀ us : List Value, us.length = n → ∃ m : Str → Option Value, Makes P w K mg C (if ks = [] then us else []) (ks.zip us) m ∧ ∀ vs, Vals vs us → ∀ f, RelO ((fs vs).lookup f) (m f)
  kp : PySem.W.keepIn K (.ref C) = true
/-- C(e, ..) | C(k = e, ..): a new exception and its dict -/
def tNew (C : Addr) (n : Nat) (fs : List V → List (Str × V)) (t : TA) : TE := fun σ H Q => t σ H fun vs H1 => vs.length = n ∧ ∀ a d, H1 a = none → H1 d = none → d ≠ a → Q (.ref a) (upd (upd H1 d (.xd (fs vs))) a (exq a C d))
section
variable {X : Cx} {C : Addr} {n : Nat} {fs : List V → List (Str × V)} {x : Str} {p pos : Pos} {e : Expr} {es : List Expr} {kws : List Keyword} {t : TA} {ks : List Str}
theorem run_new {pins : List (Addr × Obj)} {σ : St} {H : Hp} {s : Shared} {Q : VK} {us : List Value} {vs : List V} (M : Mkr X.prog X.w X.K X.mg C n ks fs) (hr : X.A.depth + 1 < recursionLimit) (I : Inv X pins σ H s) (r : Vals vs us) (l : vs.length = n)
    (h : ∀ a d, H a = none → H d = none → d ≠ a → Q (.ref a) (upd (upd H d (.xd (fs vs))) a (exq a C d))) : wpAny (model X.prog X.w) X.A (call (.ref C) (if ks = [] then us else []) (ks.zip us)) (EP X pins σ Q) X.xe s := by
  obtain ⟨m, hm, hrel⟩ := M.run us (r.length.symm.trans l)
  obtain ⟨mb, hb, hsu⟩ := super_at I
  refine wpAny_call (hm _ s mb _ I.kIn I.nolimit (I.ok.mod.glob.keeps I.bk) hb hsu hr fun h' tk e d Z => ?_)
  obtain ⟨he, hd, J⟩ := laid2 (tk := tk) I Z (hrel vs r)
  exact ⟨.ref e, _, J, rfl, h e d he hd Z.dne⟩
theorem pe_newP (M : Mkr X.prog X.w X.K X.mg C n [] fs) (hr : X.A.depth + 1 < recursionLimit) (hg : Gl X x) (hm : X.mg x = some (.ref C)) (ha : PA X (e :: es) t)
    (hdb : (x == ("__debug__" : Str)) = false := by decide) (he : starEach (e :: es) X.env = (false, eval e X.env) :: starEach es X.env := by rfl) (hpl : (backTo pos (starEach es X.env)).any (·.1) = false := by rfl) :
    PE X (.Call (.Name x p) (e :: es) [] pos) (tNew C n fs t) := by
  refine ⟨fun pins s σ H Q I h => ?_⟩
  refine wpAny_Call_Name_kw (ld_glob I hg hm ?_ hdb)
  refine PySem.W.callWith_K (h₀ := X.base) I.ok.mod.kin M.kp (thn (ha.run pos pins s σ H _ I h) fun us s1 ⟨vs, H1, I1, r, l, q⟩ => ⟨I1.kIn, ?_⟩) he hpl
  exact run_new M hr I1 r l q
theorem pe_newK (M : Mkr X.prog X.w X.K X.mg C n ks fs) (hks0 : ks ≠ []) (hr : X.A.depth + 1 < recursionLimit) (hg : Gl X x) (hm : X.mg x = some (.ref C)) (hkw : PK X kws t)
    (hall : (backToKw pos (keywordEach kws X.env)).all (·.1.isSome) = true := by rfl) (hks : (backToKw pos (keywordEach kws X.env)).filterMap (·.1) = ks := by rfl) (hdb : (x == ("__debug__" : Str)) = false := by decide)
    (hpl : ((backTo pos (starEach [] X.env)).any (·.1) || (backToKw pos (keywordEach kws X.env)).any (·.1.isNone)) = false := by rfl) :
    PE X (.Call (.Name x p) [] kws pos) (tNew C n fs t) := by
  refine ⟨fun pins s σ H Q I h => ?_⟩
  refine wpAny_Call_Name_kw (ld_glob I hg hm ?_ hdb)
  refine PySem.W.callWith_KW0 (h₀ := X.base) I.ok.mod.kin M.kp hall ?_ hpl
  refine thn (hkw.run pos pins s σ H _ I h) fun us s1 ⟨vs, H1, I1, r, l, q⟩ => ⟨I1.kIn, ?_⟩
  rw [hks]
  have z := run_new M hr I1 r l q
  rw [if_neg hks0] at z
  exact z
/-- raise C(e, ..) -/
def tMkN (C : Addr) (n : Nat) (fs : List V → List (Str × V)) (t : TA) : St → Hp → XK → Prop := fun σ H Q => t σ H fun vs H1 => vs.length = n ∧ ∀ d, H1 d = none → Q (.ref C) (some d) (upd H1 d (.xd (fs vs)))
theorem pmk_newP (M : Mkr X.prog X.w X.K X.mg C n [] fs) (R : Raises X (.ref C)) (hr : X.A.depth + 1 < recursionLimit) (hg : Gl X x) (hm : X.mg x = some (.ref C)) (ha : PA X (e :: es) t)
    (hdb : (x == ("__debug__" : Str)) = false := by decide) (he : starEach (e :: es) X.env = (false, eval e X.env) :: starEach es X.env := by rfl) (hpl : (backTo pos (starEach es X.env)).any (·.1) = false := by rfl) :
    PMk X (.Call (.Name x p) (e :: es) [] pos) (tMkN C n fs t) := by
  intro pins s σ H Q I h
  refine wpAny_Call_Name_kw (ld_glob I hg hm ?_ hdb)
  refine PySem.W.callWith_K (h₀ := X.base) I.ok.mod.kin M.kp (thn (ha.run pos pins s σ H _ I h) fun us s1 ⟨vs, H1, I1, r, l, q⟩ => ⟨I1.kIn, ?_⟩) he hpl
  show wpAny _ _ (call (.ref C) us) _ _ _
  obtain ⟨m, hmk, hrel⟩ := M.run us (r.length.symm.trans l)
  obtain ⟨mb, hb, hsu⟩ := super_at I1
  obtain ⟨hp, g, dr, tk0, os⟩ := s1
  refine wpAny_call (hmk _ ⟨hp, g, dr, tk0, os⟩ mb _ I1.kIn I1.nolimit (I1.ok.mod.glob.keeps I1.bk) hb hsu hr fun h' tk e d Z => ?_)
  show MkP X pins σ Q (.ref e) ⟨h', g, dr, tk, os⟩
  obtain ⟨t1, ho⟩ := Z.obj
  obtain ⟨G', g1, g2⟩ := restrict h' fun b => decide (b ≠ e)
  have gk : ∀ b, b ≠ e → G'.get? b = h'.get? b := fun b hb => g1 b (decide_eq_true hb)
  have ge : G'.get? e = none := g2 e (by simp)
  have old : ∀ b o, hp.get? b = some o → G'.get? b = some o := fun b o q => (gk b (Nat.ne_of_lt (Nat.lt_of_lt_of_le (Heap.lt_size q) Z.new))).trans (Z.keep b o q)
  have ob : ObjOk X.prog X.w (upd H1 d (.xd (fs vs))) G' d (.xd (fs vs)) := ⟨m, Z.ns.at (fun o q => (gk d Z.dne).trans q), hrel vs r⟩
  have J : Inv X pins σ (upd H1 d (.xd (fs vs))) ⟨G', g, dr, tk, os⟩ := I1.laid (t' := tk) old Z.dbig ob
  refine ⟨e, _, _, ⟨G', g, dr, tk, os⟩, _, .ref C, some d, rfl, J, fun b o q => ?_, ge, ho, ⟨rfl, rfl⟩, rfl, rfl, ?_, rfl, I1.bare, R, q d (I1.hok.fresh Z.dbig)⟩
  · by_cases hb : b = e
    · have q' : G'.get? b = some o := q
      rw [hb, ge] at q'
      cases q'
    · exact (gk b hb).symm.trans q
  · rw [upd_ne (Ne.symm Z.dne)]
    exact I1.hok.fresh Z.new
end
end Mv
namespace Mv
open PySem PySem.Spec PyProof.Rows L2 MvX
/-! ### what the written part says of the classes: M the base, C one of those under it -/
structure XF (K : PySem.W.Frag) (M C : Addr) : Prop where
  mr : ∃ cd : ClassData, PySem.W.clsIn K C = some cd ∧ cd.mro = [.ref C, .ref M, .type "ValueError", .type "Exception", .type "BaseException", .type "object"] ∧ cd.hasDict = true
  ga : PySem.W.findIn K (.ref C) "__getattribute__" = some (some (.builtin "BaseException.__getattribute__"))
  gg : PySem.W.findIn K (.ref C) "__getattr__" = some none
  dc : PySem.W.findIn K (.ref C) "__class__" = some (some (.builtin "object.__class__"))
  ty : PySem.W.typeIn K (.ref C) = some (.type "type")
structure GF (K : PySem.W.Frag) (M : Addr) : Prop where
  sp : PySem.W.specialIn K (.builtin "object.__class__") "__get__" = some (some (.builtin "getset_descriptor.__get__"))
  tk : PySem.W.takesIn K (.builtin "object.__class__") = some true
  cl : (PySem.W.clsIn K M).isSome = true
  ty : PySem.W.typeIn K (.ref M) = some (.type "type")
  ex : PySem.W.subIn K (.ref M) (.type "BaseException") = some true
section
variable {K : PySem.W.Frag} {M C D : Addr}
theorem XF.sub (x : XF K M C) (b : Value) : PySem.W.subIn K (.ref C) b = some ([.ref C, .ref M, .type "ValueError", .type "Exception", .type "BaseException", .type "object"].contains b) := by
  obtain ⟨cd, h1, h2, _⟩ := x.mr
  show PySem.W.mroIn K C b = _
  unfold PySem.W.mroIn
  rw [h1, Option.bind_some, h2]
  rfl
theorem XF.isC (x : XF K M C) : (PySem.W.clsIn K C).isSome = true := by
  obtain ⟨cd, h1, _⟩ := x.mr
  rw [h1]; rfl
theorem XF.hd (x : XF K M C) : PySem.W.hasDictIn K C = true := by
  obtain ⟨cd, h1, _, h3⟩ := x.mr
  unfold PySem.W.hasDictIn
  rw [h1]
  exact h3
theorem XF.exc (x : XF K M C) : PySem.W.subIn K (.ref C) (.type "BaseException") = some true := by
  rw [x.sub]; simp
theorem XF.obj (x : XF K M C) : PySem.W.mroIn K C (.type "object") = some true := by
  have z := x.sub (.type "object")
  have z2 : PySem.W.mroIn K C (.type "object") = PySem.W.subIn K (.ref C) (.type "object") := rfl
  rw [z2, z]; simp
theorem kit_same : PySem.W.kitOne K (.ref C) (.ref C) = some true := by
  unfold PySem.W.kitOne
  rw [if_pos (beq_self_eq_true _)]
theorem kit_cls_of (hc : (PySem.W.clsIn K D).isSome = true) (ht : PySem.W.typeIn K (.ref D) = some (.type "type")) (t : Value) : PySem.W.kitCls K t (.ref D) = PySem.W.subIn K t (.ref D) := by
  show (if ((PySem.W.clsIn K D).isSome && PySem.W.typeIn K (.ref D) == some (.type "type")) = true then PySem.W.subIn K t (.ref D) else none) = _
  rw [hc, ht]
  rfl
theorem kit_other (x : XF K M C) (y : XF K M D) (n : C ≠ D) (nM : M ≠ D) : PySem.W.kitOne K (.ref C) (.ref D) = some false := by
  unfold PySem.W.kitOne
  have e : (Value.ref C == Value.ref D) = false := by simp [n]
  rw [e, if_neg Bool.false_ne_true, kit_cls_of y.isC y.ty, x.sub]
  have n' : D ≠ C := Ne.symm n
  have nM' : D ≠ M := Ne.symm nM
  simp [n', nM']
theorem kit_base (x : XF K M C) (g : GF K M) : PySem.W.kitOne K (.ref C) (.ref M) = some true := by
  unfold PySem.W.kitOne
  by_cases e : (Value.ref C == Value.ref M) = true
  · rw [if_pos e]
  · rw [if_neg e, kit_cls_of g.cl g.ty, x.sub]
    simp
theorem kit_VE (x : XF K M C) : PySem.W.kitOne K (.ref C) (.type "ValueError") = some true := by
  unfold PySem.W.kitOne
  have e : (Value.ref C == Value.type "ValueError") = false := rfl
  rw [e, if_neg Bool.false_ne_true]
  show (if PySem.W.kitMeta "ValueError" = true then PySem.W.subIn K (.ref C) (.type "ValueError") else none) = _
  rw [if_pos (by decide +kernel), x.sub]
  simp
theorem exm_base (x : XF K M C) (g : GF K M) : PySem.W.exmOne K (.ref C) (.ref M) = some true := by
  unfold PySem.W.exmOne
  rw [g.ex, if_pos (show ((some true : Option Bool) == some true) = true from rfl), kit_cls_of g.cl g.ty, x.sub]
  simp
end
/-! ### e.f, isinstance(e, c) of a held one -/
def tAt (K : PySem.W.Frag) (M : Addr) (f : Str) (te : TE) : TE := fun σ H Q => te σ H fun x H1 => ∃ (a C d : Addr) (fs : List (Str × V)) (v : V), x = .ref a ∧ H1 a = some (exq a C d) ∧ H1 d = some (.xd fs) ∧ XF K M C ∧ PySem.W.findIn K (.ref C) f = some none ∧ fs.lookup f = some v ∧ Q v H1
theorem pe_at {X : Cx} {M : Addr} {e : Expr} {te : TE} {pos : Pos} {n : Str} (he : PE X e te) (hb : attributeBase e n X.env (eval e X.env) = eval e X.env := by rfl) : PE X (.Attribute e n pos) (tAt X.K M n te) := by
  refine ⟨fun pins s σ H Q I h => ?_⟩
  refine attr_of hb (thn (he.run pins s σ H _ I h) fun u s1 hh => ?_)
  obtain ⟨x, H1, I1, rx, a, C, d, fs, v, ex, ea, ed, T, hno, l, q⟩ := hh
  subst ex
  obtain rfl : u = Value.ref a := rx
  obtain ⟨oe, vs, ho, hc, hdd, hdt⟩ := exq_at I1.hok ea
  obtain ⟨mA, hns, hr⟩ := xd_at I1.hok ed
  obtain ⟨od, hod, hl⟩ := lookIn_ns hns
  obtain ⟨u, hu, ru⟩ := RelO.some_of (v := v) (o := mA n) (by rw [← l]; exact hr n)
  have J : PySem.W.InstAt s1.heap a oe C (some od) := ⟨ho, hc, by unfold PySem.W.notCls; rw [hdt] <;> rfl, by rw [hdd]; exact hod⟩
  exact HandSPX.exc_get I1.kIn J T.ga T.gg T.exc (PySem.W.findObj_own T.hd hno rfl (by rw [hl, hu])) (handed_of ru) ⟨v, H1, I1.tok _, ru, q⟩
def rIsX (K : PySem.W.Frag) (M : Addr) : List V → Hp → VK → Prop := fun xs H Q => ∃ (a C d : Addr) (fs : List (Str × V)) (c : V) (cv : Value) (b : Bool), xs = [.ref a, c] ∧ H a = some (exq a C d) ∧ H d = some (.xd fs) ∧ XF K M C ∧ ClsV c cv ∧ PySem.W.kitOne K (.ref C) cv = some b ∧ Q (.bl b) H
theorem call_isX {X : Cx} {M : Addr} (G : GF X.K M) : CallR X (.builtin "isinstance") (rIsX X.K M) := by
  intro pins s σ H xs us Q I r h
  obtain ⟨a, C, d, fs, c, cv, b, rfl, ea, ed, T, k, e, q⟩ := h
  obtain ⟨u1, u2, rfl, r1, r2⟩ := vals2 r
  have e2 := k.eq r2
  subst e2
  obtain rfl : u1 = Value.ref a := r1
  obtain ⟨oe, vs, ho, hc, hdd, hdt⟩ := exq_at I.hok ea
  obtain ⟨mA, hns, hr⟩ := xd_at I.hok ed
  obtain ⟨od, hod, hl⟩ := lookIn_ns hns
  have J : PySem.W.InstAt s.heap a oe C (some od) := ⟨ho, hc, by unfold PySem.W.notCls; rw [hdt] <;> rfl, by rw [hdd]; exact hod⟩
  exact PySem.W.kia_one (PySem.W.kitx_exc T.isC T.ga T.gg T.exc T.dc G.sp G.tk T.obj) I.kIn J e (fun z => nomatch z) fun tk => ⟨.bl b, H, I.tok tk, rfl, q⟩
/-- .. of the caught one, which stands in the pins -/
def rIsP (K : PySem.W.Frag) (a C d : Addr) : List V → Hp → VK → Prop := fun xs H Q => ∃ (fs : List (Str × V)) (c : V) (cv : Value) (b : Bool), xs = [.ref a, c] ∧ H d = some (.xd fs) ∧ ClsV c cv ∧ PySem.W.kitOne K (.ref C) cv = some b ∧ Q (.bl b) H
theorem call_isP {X : Cx} {M a C d : Addr} {oe : Obj} (G : GF X.K M) (T : XF X.K M C) (hp : (a, oe) ∈ X.pn) (hc : oe.cls = .ref C) (hdd : oe.dict = some d) (hf : ∃ vs, oe.data = .fields vs) : CallR X (.builtin "isinstance") (rIsP X.K a C d) := by
  intro pins s σ H xs us Q I r h
  obtain ⟨fs, c, cv, b, rfl, ed, k, e, q⟩ := h
  obtain ⟨u1, u2, rfl, r1, r2⟩ := vals2 r
  have e2 := k.eq r2
  subst e2
  obtain rfl : u1 = Value.ref a := r1
  obtain ⟨ho, _⟩ := I.pin (a, oe) (List.mem_append_left _ hp)
  obtain ⟨vs, hdt⟩ := hf
  obtain ⟨mA, hns, hr⟩ := xd_at I.hok ed
  obtain ⟨od, hod, hl⟩ := lookIn_ns hns
  have J : PySem.W.InstAt s.heap a oe C (some od) := ⟨ho, hc, by unfold PySem.W.notCls; rw [hdt] <;> rfl, by rw [hdd]; exact hod⟩
  exact PySem.W.kia_one (PySem.W.kitx_exc T.isC T.ga T.gg T.exc T.dc G.sp G.tk T.obj) I.kIn J e (fun z => nomatch z) fun tk => ⟨.bl b, H, I.tok tk, rfl, q⟩

/-! ### a def that is called in an except suite, the caught exception among what it is told -/
structure FnP (P : Program) (w : World) (K : PySem.W.Frag) (mg : Str → Option Value) (base : Heap) (k : Nat) (f : Addr) (fd : FuncData) (ps : List Str) (sp : Addr → Obj → Sp) : Prop where
  run : ∀ (A : Around) (outer : List Env) (s : Shared) (H : Hp) (args : Args) (us : List Value) (vs : List V) (Q : VK) (a : Addr) (oe : Obj), L2H.RoomH k A → L2H.PinOk outer H s (a, oe) → Env0 P w K mg base A outer s H → BindsTo s fd args (ps.zip us) → Vals vs us → sp a oe vs H Q E0 →
    codeAny (model P w) A (.call (.ref f) args) (CR CX0 outer P w H s Q E0) s
theorem Fun.okP {P : Program} {w : World} {K : PySem.W.Frag} {mg : Str → Option Value} {base : Heap} {k : Nat} {x qual : Str} {st : Stmt} {f : Addr} {fd : FuncData} {N ps : List Str} {sp : Addr → Obj → Sp} (F : Fun K x qual st f fd) (S : FnScope N ps (defScope st))
    (len : ∀ a oe vs H Q E, sp a oe vs H Q E → vs.length = ps.length)
    (hbody : ∀ (cdv : Value) (A : Around) (outer : List Env) (s : Shared) (H : Hp) (vs : List V) (Q : VK) (a : Addr) (oe : Obj), L2H.RoomH k (A.deeper (envOfC qual (defScope st) s.heap.objs.size f cdv)) → sp a oe vs H Q E0 →
      ∃ t, PSs (L2H.cxH CX0 P w K mg base N qual (defScope st) f cdv A outer s H E0 (a, oe)) (defBody st) t ∧ t { nx := fun _ H' => Q .non H', rt := Q } (L2.start N vs) H) : FnP P w K mg base (k + 1) f fd ps sp := by
  obtain ⟨oc, od, kV, doc, pm, an, cdv, ct, osl, rfl, lk, hcd⟩ := F.ex
  refine ⟨fun A outer s H args us vs Q a oe hr hpin e0 hb r hsp => ?_⟩
  have hl := len a oe _ _ _ _ hsp
  have KX : K.In s.heap := e0.mod.kin.keeps fun b o e => (e0.bs b o e).1
  have lim : s.heap.NoLimit := e0.mod.nolimit.keeps fun b o e => (e0.bs b o e).1
  refine codeAny_call_function hr.depth (KX _ _ lk) rfl S.co S.gen rfl (PySem.W.codeRec_of KX hcd) (hb _ _ _ _ ?_)
  refine wpAny_newFunctionEnv_cells S.kind (fun y hy => ?_) fun env he s1 x => ?_
  · obtain ⟨n, v⟩ := y
    rcases S.par n (List.of_mem_zip hy).1 with q | q
    · exact .inl q
    · exact .inr ⟨q, PySem.W.cellsFrom_some _ _ _ (.inl q)⟩
  subst he
  refine ⟨lim.keeps x.toInCall.keep, codeAny_func ?_⟩
  obtain ⟨t, ht, hq⟩ := hbody cdv A outer s H vs Q a oe (hr.deeper _) hsp
  have I : Inv (L2H.cxH CX0 P w K mg base N qual (defScope st) f cdv A outer s H E0 (a, oe)) [] (L2.start N vs) H s1 := L2H.inv_startH S hpin e0 hl r x
  refine wpAny_mono (ht.run [] s1 (L2.start N vs) H _ I hq) (fun fl s' hs => ?_) fun e s' hs => hs
  cases fl with
  | ret u =>
    obtain ⟨v, σ', H', J, rv, q⟩ := hs
    exact ⟨v, H', J.os, J.bare, J.base, J.hok, rv, q⟩
  | next =>
    obtain ⟨σ', H', J, q⟩ := hs
    exact ⟨V.non, H', J.os, J.bare, J.base, J.hok, rfl, q⟩
  | brk =>
    obtain ⟨_, _, _, q⟩ := hs
    exact False.elim q
  | cont =>
    obtain ⟨_, _, _, q⟩ := hs
    exact False.elim q
def tCallP (sp : Addr → Obj → Sp) (a : Addr) (oe : Obj) (t : TA) : TE := fun σ H Q => t σ H fun vs H1 => sp a oe vs H1 Q E0
theorem pe_callP {X : Cx} {k : Nat} {f a : Addr} {oe : Obj} {fd : FuncData} {ps : List Str} {sp : Addr → Obj → Sp} {x : Str} {q pos : Pos} {e : Expr} {es : List Expr} {t : TA} (F : FnP X.prog X.w X.K X.mg X.base k f fd ps sp) (len : ∀ vs H Q E, sp a oe vs H Q E → vs.length = ps.length)
    (hr : L2H.RoomH k X.A) (hp : (a, oe) ∈ X.pn) (hg : Gl X x) (hm : X.mg x = some (.ref f)) (hk : PySem.W.keepIn X.K (.ref f) = true) (hb : Binds X.K fd ps []) (ha : PA X (e :: es) t)
    (hdb : (x == ("__debug__" : Str)) = false := by decide) (he : starEach (e :: es) X.env = (false, eval e X.env) :: starEach es X.env := by rfl) (hpl : (backTo pos (starEach es X.env)).any (·.1) = false := by rfl) :
    PE X (.Call (.Name x q) (e :: es) [] pos) (tCallP sp a oe t) := by
  refine ⟨fun pins s σ H Q I h => ?_⟩
  refine wpAny_Call_Name_kw (ld_glob I hg hm ?_ hdb)
  refine PySem.W.callWith_K (h₀ := X.base) I.ok.mod.kin hk (thn (ha.run pos pins s σ H _ I h) fun us s1 ⟨vs, H1, I1, r, q⟩ => ⟨I1.kIn, ?_⟩) he hpl
  have hl : us.length = ps.length := by rw [← r.length]; exact len _ _ _ _ q
  have b := hb s1 us I1.kIn (by rw [List.append_nil]; exact hl)
  rw [List.append_nil] at b
  have P1 := I1.pin (a, oe) (List.mem_append_left _ hp)
  have hpin : L2H.PinOk X.stack H1 s1 (a, oe) := ⟨P1.1, P1.2.1, fun hm => (List.mem_cons.mp (I1.stkSub a hm)).elim P1.2.2.1 P1.2.2.2.1, P1.2.2.2.2⟩
  refine wpAny_call (codeAny_mono (F.run X.A X.stack s1 H1 ⟨us, []⟩ us vs Q a oe hr hpin I1.env0 b r q) fun r s' hq => ?_)
  cases r with
  | error e => exact False.elim hq
  | ok fl =>
    cases fl with
    | ret u => exact I1.after hq
    | next => exact False.elim hq
    | brk => exact False.elim hq
    | cont => exact False.elim hq
end Mv
/-! The law's own helpers: the draws, one draw. -/
namespace Mv
open PySem PySem.Spec PyProof.Rows L2 MvX
/-! ### the text -/
def topS (i : Nat) : Stmt := PySem.Challenge.pw_movedwhole_k01_errors.main.body.getD i (.Pass ⟨0, 0, 0, 0⟩)
abbrev sDraws : Stmt := topS 20
abbrev sTake : Stmt := topS 21
abbrev sLike : Stmt := topS 22
abbrev sOdd : Stmt := topS 23
abbrev sKinds : Stmt := topS 24
abbrev sMade : Stmt := topS 25
abbrev sNamed : Stmt := topS 26
abbrev sKept : Stmt := topS 27
abbrev sRaise : Stmt := topS 28
abbrev sRaised : Stmt := topS 29
abbrev sRight : Stmt := topS 30
abbrev sLaw : Stmt := topS 31
/-- the built-ins' names that the module leaves alone -/
structure Blt (mg : Str → Option Value) : Prop where
  abs : mg "abs" = none
  int : mg "int" = none
  len : mg "len" = none
  range : mg "range" = none
  isinst : mg "isinstance" = none
  tuple : mg "tuple" = none
  list : mg "list" = none
  bool : mg "bool" = none
  str : mg "str" = none
  ve : mg "ValueError" = none
theorem same_new {H : Hp} {p : Addr} (h : H p = none) (o : HO) : Same H (upd H p o) := fun b u q => by rw [upd_ne (ne_of_none q h)]; exact q
theorem b_abs : bootBuiltins "abs" = some (.builtin "abs") := by decide +kernel
theorem b_int : bootBuiltins "int" = some (.type "int") := by decide +kernel
theorem b_len : bootBuiltins "len" = some (.builtin "len") := by decide +kernel
theorem b_tuple : bootBuiltins "tuple" = some (.type "tuple") := by decide +kernel
theorem b_list : bootBuiltins "list" = some (.type "list") := by decide +kernel
theorem b_bool : bootBuiltins "bool" = some (.type "bool") := by decide +kernel
theorem b_str : bootBuiltins "str" = some (.type "str") := by decide +kernel
theorem b_isinst : bootBuiltins "isinstance" = some (.builtin "isinstance") := by decide +kernel
theorem b_VE : bootBuiltins "ValueError" = some (.type "ValueError") := by decide +kernel
section
variable {P : Program} {w : World} {K : PySem.W.Frag} {mg : Str → Option Value} {base : Heap}
/-! ### _law_take -/
def spTake (K : PySem.W.Frag) : Sp := fun vs H Q _ => ∃ (h dl : Addr) (ns : List Int) (p m : Int), vs = [.ref h, .int m] ∧ H h = some (.lst [.ref dl, .int p]) ∧ H dl = some (.lst (ns.map V.int)) ∧ 0 ≤ p ∧ 0 < m ∧
  ∀ r : Int, 0 ≤ r → r < m → Q (.int r) (upd H h (.lst [.ref dl, .int (p + 1)]))
theorem scTake : FnScope ["_law_hand", "_law_many", "_law_at", "_law_draws_here"] ["_law_hand", "_law_many"] (defScope sTake) := ⟨rfl, rfl, rfl, by decide +kernel, rfl, by decide +kernel, by decide +kernel⟩
theorem hand_ne {H : Hp} {h dl : Addr} {p : V} {ns : List Int} (e1 : H h = some (.lst [.ref dl, p])) (e2 : H dl = some (.lst (ns.map V.int))) : dl ≠ h := by
  rintro rfl
  rw [e1] at e2
  have z := HO.lst.inj (Option.some.inj e2)
  cases ns with
  | nil => cases z
  | cons a r => cases (List.cons.inj z).1
theorem ok_take {f : Addr} {fd : FuncData} (F : Fun K "_law_take" "_law_take" sTake f fd) (B : Blt mg) : FnOk P w K mg base CX0 1 f fd ["_law_hand", "_law_many"] (spTake K) := by
  refine F.ok scTake (fun vs H Q E h => ?_) (fun cdv A outer s H vs Q E hr h => ?_)
  · obtain ⟨_, _, _, _, _, rfl, _⟩ := h
    rfl
  obtain ⟨h, dl, ns, p, m, rfl, e1, e2, h0, hm, q⟩ := h
  have ne := hand_ne e1 e2
  refine ⟨_, pss_cons (ps_set (i := 2) scTake.nd rfl (.inl rfl) (pe_ix ix_list (pv 0) pe_int (fun _ _ => rfl)))
    (pss_cons (ps_asg (pe_op op_add (pv 2) pe_int) (pg_sub (pv 0) pe_int set_list))
    (pss_cons (ps_set (i := 3) scTake.nd rfl (.inl rfl) (pe_ix ix_list (pv 0) pe_int (fun _ _ => rfl)))
    (pss_cons (ps_if (pt_cmpR op_ge (pv 2) (pe_callB call_len_seq (by rfl) B.len b_len (pa_cons (pv 3) pa_nil)) (nomark _)) (pss_one (ps_ret pe_int)) pss_nil)
    (pss_one (ps_ret (pe_op op_modN (pe_op op_fdivN (pe_callTy call_int1 (by rfl) B.int b_int (pa_cons (pe_ix ix_list (pv 3) (pv 2) (fun _ _ => rfl)) pa_nil)) pe_int) (pv 1))))))), ?_⟩
  refine ⟨_, rfl, h, _, 1, .int p, rfl, rfl, SqL.of e1, atI_nat (j := 1) rfl, ?_⟩
  refine ⟨_, rfl, p, 1, rfl, rfl, ?_⟩
  refine ⟨_, rfl, h, _, 1, 1, rfl, rfl, e1, rfl, ?_⟩
  refine ⟨_, rfl, h, _, 0, .ref dl, rfl, rfl, SqL.of upd_same, atI_nat (j := 0) rfl, ?_⟩
  have e3 : (upd H h (.lst [.ref dl, .int (p + 1)])) dl = some (.lst (ns.map V.int)) := by rw [upd_ne ne]; exact e2
  refine ⟨_, rfl, _, rfl, dl, ns.map V.int, rfl, .inl (SqL.of e3), p, _, rfl, rfl, _, rfl, ite2 (fun c => ?_) (fun c => ?_)⟩
  · exact q 0 (Int.le_refl _) hm
  · have c' : p < (((ns.map V.int).length : Nat) : Int) := by
      have z := of_decide_eq_false (Bool.eq_false_iff.mpr c)
      omega
    rw [List.length_map] at c'
    have hk : p.toNat < ns.length := by omega
    have at1 : atI (ns.map V.int) p = some (.int ns[p.toNat]) := at_of (j := p.toNat) (by omega) (by rw [List.getElem?_map, List.getElem?_eq_getElem hk]; rfl)
    refine ⟨_, rfl, _, rfl, dl, _, p, _, rfl, rfl, SqL.of e3, at1, .inl ⟨_, rfl, ?_⟩⟩
    refine ⟨_, 7, rfl, rfl, ⟨by decide, by decide⟩, ?_⟩
    refine ⟨_, rfl, _, m, rfl, rfl, by omega, ?_⟩
    exact q _ (Int.fmod_nonneg_of_pos _ hm) (Int.fmod_lt_of_pos _ hm)
/-! ### _law_draws -/
def nDraws : List Str := ["_law_script", "_law_many", "_law_cell", "_law_rests", "_law_draws_here", "_law_k", "_law_at", "_law_mixed"]
def spDraws (K : PySem.W.Frag) : Sp := fun vs H Q _ => ∃ (a : Addr) (ns : List Int), vs = [.ref a, .int 120] ∧ SqL K H a (ns.map V.int) ∧ ns.length ≤ 1000 ∧
  ∀ (r : Addr) (ds : List Int) (H' : Hp), Same H H' → H r = none → H' r = some (.lst (ds.map V.int)) → Q (.ref r) H'
theorem scDraws : FnScope nDraws ["_law_script", "_law_many"] (defScope sDraws) := ⟨rfl, rfl, rfl, by decide +kernel, rfl, by decide +kernel, by decide +kernel⟩
/-- what the loop's turns keep -/
structure DInv (H0 : Hp) (rr dd : Addr) (n i : Nat) (H : Hp) : Prop where
  same : Same H0 H
  rests : ∃ rs : List Int, rs.length = n ∧ H rr = some (.lst (rs.map V.int))
  draws : ∃ ds : List Int, ds.length = i ∧ H dd = some (.lst (ds.map V.int))
theorem DInv.app {H0 H : Hp} {rr dd : Addr} {n i : Nat} (I : DInv H0 rr dd n i H) (hr : rr ≠ dd) (hd : H0 dd = none) {ds : List Int} (x : Int) (hl : ds.length = i) (h : H dd = some (.lst (ds.map V.int))) : DInv H0 rr dd n (i + 1) (upd H dd (.lst (ds.map V.int ++ [.int x]))) := by
  obtain ⟨rs, h1, h2⟩ := I.rests
  refine ⟨fun b o e => ?_, ⟨rs, h1, by rw [upd_ne hr]; exact h2⟩, ⟨ds ++ [x], by rw [List.length_append, hl]; rfl, by rw [upd_same, List.map_append]; rfl⟩⟩
  rw [upd_ne (ne_of_none e hd)]
  exact I.same _ _ e
theorem small_mod {x : Int} : CMul (x.fmod 2147483647) (x.fmod 2147483647) := by
  have h1 := Int.fmod_nonneg_of_pos x (b := 2147483647) (by decide)
  have h2 := Int.fmod_lt_of_pos x (b := 2147483647) (by decide)
  exact .inl ⟨by omega, by omega⟩
theorem small_mod' {x : Int} : CMul (x.fmod 2147483629) (x.fmod 2147483629) := by
  have h1 := Int.fmod_nonneg_of_pos x (b := 2147483629) (by decide)
  have h2 := Int.fmod_lt_of_pos x (b := 2147483629) (by decide)
  exact .inl ⟨by omega, by omega⟩
end
end Mv
namespace Mv
open PySem PySem.Spec PyProof.Rows L2 MvX
abbrev rcInt : List V → Hp → VK → Prop := fun xs H Q => (∃ i, xs = [.int i] ∧ Q (.int i) H) ∨ ∃ k, xs = [.bl k] ∧ Q (.int (if k then 1 else 0)) H
abbrev rMod : R2 := rI (fun _ j => j ≠ 0) fun i j => .int (i.fmod j)
abbrev rAdd : R2 := rI0 fun i j => .int (i + j)
abbrev rMul : R2 := rI CMul fun i j => .int (i * j)
abbrev rDiv : R2 := rI CDivN fun i j => .int (i.fdiv j)
abbrev tI1 (t : TE) : TE := tCB rcInt (tCons t tNil)
abbrev tSq : TE := tOp rDiv (tOp rMul (tVar 7) (tVar 7)) (tC (.int 4096))
/-- a turn's last three lines -/
def tTail (K : PySem.W.Frag) : TS := tSeq (tAsg (tOp rMod (tI1 (tOp rAdd (tOp rAdd (tOp rMul (tVar 2) (tC (.int 48271))) (tOp rMul (tVar 5) (tC (.int 69621)))) (tC (.int 11)))) (tC (.int 2147483647))) (gName 7))
  (tSeq (tAsg (tOp rMod (tI1 (tOp rAdd tSq (tVar 7))) (tC (.int 2147483629))) (gName 7))
    (tDrop (tBM K "list" rAppend (tVar 4) (tCons (tOp rMod (tI1 (tOp rAdd tSq (tOp rMul (tVar 5) (tC (.int 7919))))) (tC (.int 2147483629))) tNil))))
theorem pure_tail {K : PySem.W.Frag} {y0 y1 y3 y6 y7 : Option V} {c k : Int} {dd : Addr} {D : Ends} {H : Hp} {xs : List V} (e : H dd = some (.lst xs)) (hz : xs.length < sizeLine)
    (q : ∀ y7' x, D.nx [y0, y1, some (.int c), y3, some (.ref dd), some (.int k), y6, y7'] (upd H dd (.lst (xs ++ [.int x])))) : tTail K D [y0, y1, some (.int c), y3, some (.ref dd), some (.int k), y6, y7] H := by
  have m1 : CMul c 48271 := .inr ⟨by decide, by decide⟩
  have m2 : CMul k 69621 := .inr ⟨by decide, by decide⟩
  have m3 : CMul k 7919 := .inr ⟨by decide, by decide⟩
  have z1 : (2147483647 : Int) ≠ 0 := by decide
  have z2 : (2147483629 : Int) ≠ 0 := by decide
  have d1 : ∀ x, CDivN x 4096 := fun x => ⟨by decide, by decide⟩
  refine ⟨_, rfl, _, _, rfl, rfl, m1, _, rfl, _, _, rfl, rfl, m2, _, _, rfl, rfl, _, _, rfl, rfl, .inl ⟨_, rfl, _, _, rfl, rfl, z1, ?_⟩⟩
  refine ⟨_, rfl, _, rfl, _, _, rfl, rfl, small_mod, _, _, rfl, rfl, d1 _, _, rfl, _, _, rfl, rfl, .inl ⟨_, rfl, _, _, rfl, rfl, z2, ?_⟩⟩
  refine ⟨_, rfl, .inl ⟨rfl, _, SqL.of e⟩, _, rfl, _, rfl, _, _, rfl, rfl, small_mod', _, _, rfl, rfl, d1 _, _, rfl, _, _, rfl, rfl, m3, _, _, rfl, rfl, .inl ⟨_, rfl, _, _, rfl, rfl, z2, ?_⟩⟩
  exact ⟨dd, xs, _, rfl, rfl, e, hz, q _ _⟩
section
variable {P : Program} {w : World} {K : PySem.W.Frag} {mg : Str → Option Value} {base : Heap}
theorem DInv.setR {H0 H : Hp} {rr dd : Addr} {n i : Nat} (I : DInv H0 rr dd n i H) (hr : rr ≠ dd) (hd : H0 rr = none) {rs : List Int} (j : Nat) (x : Int) (hl : rs.length = n) : DInv H0 rr dd n i (upd H rr (.lst ((rs.map V.int).set j (.int x)))) := by
  obtain ⟨ds, h1, h2⟩ := I.draws
  refine ⟨fun b o e => ?_, ⟨rs.set j x, by rw [List.length_set, hl], by rw [upd_same, List.map_set]⟩, ⟨ds, h1, by rw [upd_ne (Ne.symm hr)]; exact h2⟩⟩
  rw [upd_ne (ne_of_none e hd)]
  exact I.same _ _ e
theorem ok_draws {f : Addr} {fd : FuncData} (F : Fun K "_law_draws" "_law_draws" sDraws f fd) (B : Blt mg) : FnOk P w K mg base CX0 1 f fd ["_law_script", "_law_many"] (spDraws K) := by
  refine F.ok scDraws (fun vs H Q E h => ?_) (fun cdv A outer s H vs Q E hr h => ?_)
  · obtain ⟨_, _, rfl, _⟩ := h
    rfl
  obtain ⟨a, ns, rfl, hS, hn, q⟩ := h
  refine ⟨_, pss_cons (ps_setLc (i := 3) (own := [("_law_cell", 2)]) (g := gName 2) (tt := tYes) rfl scDraws.nd rfl rfl (sw_true rfl rfl rfl (by decide +kernel)) (pi_list (pv 0)) (blkOk_by (N := nDraws) (sc := defScope sDraws) (by decide +kernel))
      (fun _ _ _ _ _ => pg_name (i := 2) scDraws.nd rfl (Or.inl rfl)) (fun _ _ _ _ _ => pts_nil)
      (fun _ _ _ _ _ => pe_callB call_abs (by rfl) B.abs b_abs (pa_cons (pe_callTy call_int1 (by rfl) B.int b_int (pa_cons (pv 2) pa_nil)) pa_nil)))
    (pss_cons (ps_set (i := 4) scDraws.nd rfl (.inl rfl) (pe_lst pa_nil))
    (pss_cons (ps_for PassesOwn.never rfl (pi_range1 (by rfl) B.range (pa_cons (pv 1) pa_nil)) (pg_name (i := 5) scDraws.nd rfl (.inl rfl))
      (pss_cons (ps_set (i := 2) scDraws.nd rfl (.inl rfl) (pv 5))
      (pss_cons (ps_if (pt_cmpR op_gt (pe_callB call_len_seq (by rfl) B.len b_len (pa_cons (pv 0) pa_nil)) pe_int (nomark _))
        (pss_cons (ps_set (i := 6) scDraws.nd rfl (.inl rfl) (pe_op op_modN (pv 5) (pe_callB call_len_seq (by rfl) B.len b_len (pa_cons (pv 0) pa_nil))))
        (pss_cons (ps_set (i := 2) scDraws.nd rfl (.inl rfl) (pe_callTy call_int1 (by rfl) B.int b_int (pa_cons (pe_ix ix_list (pv 0) (pv 6) (fun _ _ => rfl)) pa_nil)))
        (pss_one (ps_if (PW.pt (pw_and (pt_cmpR op_ge (pv 2) (pe_op op_pow pe_int pe_int) (nomark _)) (pw_and1 (pt_cmpR op_gt (pe_ix ix_list (pv 3) (pv 6) (fun _ _ => rfl)) pe_int (nomark _)))))
          (pss_cons (ps_expr (pe_bm PySem.F.plainAttrs_list PySem.F.slot_list_append PySem.F.type_list_append mt_append (pv 4) (pa_cons (pe_op op_modN (pe_callTy call_int1 (by rfl) B.int b_int (pa_cons (pe_ix ix_list (pv 3) (pv 6) (fun _ _ => rfl)) pa_nil)) pe_int) pa_nil)))
          (pss_cons (ps_asg (pe_op op_fdivN (pe_callTy call_int1 (by rfl) B.int b_int (pa_cons (pe_ix ix_list (pv 3) (pv 6) (fun _ _ => rfl)) pa_nil)) pe_int) (pg_sub (pv 3) (pv 6) set_list))
          (pss_one ps_continue))) pss_nil)))) pss_nil)
      (show PSs _ _ (tTail K) from pss_cons (ps_set (i := 7) scDraws.nd rfl (.inl rfl) (pe_op op_modN (pe_callTy call_int1 (by rfl) B.int b_int (pa_cons (pe_op op_add (pe_op op_add (pe_op op_mul (pv 2) pe_int) (pe_op op_mul (pv 5) pe_int)) pe_int) pa_nil)) pe_int))
      (pss_cons (ps_set (i := 7) scDraws.nd rfl (.inl rfl) (pe_op op_modN (pe_callTy call_int1 (by rfl) B.int b_int (pa_cons (pe_op op_add (pe_op op_fdivN (pe_op op_mul (pv 7) (pv 7)) pe_int) (pv 7)) pa_nil)) pe_int))
      (pss_one (ps_expr (pe_bm PySem.F.plainAttrs_list PySem.F.slot_list_append PySem.F.type_list_append mt_append (pv 4)
        (pa_cons (pe_op op_modN (pe_callTy call_int1 (by rfl) B.int b_int (pa_cons (pe_op op_add (pe_op op_fdivN (pe_op op_mul (pv 7) (pv 7)) pe_int) (pe_op op_mul (pv 5) pe_int)) pa_nil)) pe_int) pa_nil)))))))))
    (pss_one (ps_ret (pv 4))))), ?_⟩
  -- the rests
  refine ⟨_, rfl, a, rfl, ⟨_, hS⟩, fun rr nrr => ?_⟩
  refine lc_list (K := K) (a := a) (xs := ns.map V.int) (fun i H' => Same H H' ∧ ∃ rs : List Int, rs.length = i ∧ H' rr = some (.lst (rs.map V.int))) ?_ ?_ ?_ ?_
  · exact ⟨same_new nrr _, [], rfl, upd_same⟩
  · exact fun i H' _ z => z.1.seq hS
  · rintro i x H' hx ⟨s1, rs, l1, e1⟩
    rw [List.getElem?_map] at hx
    obtain ⟨n, hn', rfl⟩ := Option.map_eq_some_iff.mp hx
    have hi : i < ns.length := (List.getElem?_eq_some_iff.mp hn').1
    refine ⟨rfl, ?_⟩
    refine ⟨_, rfl, .inl ⟨n, rfl, ?_⟩⟩
    refine ⟨n, rfl, _, e1, ?_, fun b o q => ?_, rs ++ [if n < 0 then -n else n], ?_, ?_⟩
    · rw [List.length_map, l1]
      exact small1000 (by omega)
    · rw [upd_ne (ne_of_none q nrr)]
      exact s1 b o q
    · rw [List.length_append, l1]; rfl
    · rw [upd_same, List.map_append]; rfl
  rintro H1 ⟨s1, rs0, l0, e0⟩
  rw [List.length_map] at l0
  -- the draws
  refine ⟨Nat.zero_le _, fun dd ndd => ?_⟩
  have hrd : rr ≠ dd := ne_of_none e0 ndd
  have nd0 : H dd = none := s1.free ndd
  refine ⟨_, rfl, 120, rfl, by decide, by decide, ?_⟩
  refine for_range (lo := 0) (n := 120) (fun i σ H' => (∃ y2 y5 y6 y7, σ = [some (.ref a), some (.int 120), y2, some (.ref rr), some (.ref dd), y5, y6, y7]) ∧ DInv H rr dd ns.length i H') ?_ ?_ ?_
  · refine ⟨⟨_, _, _, _, rfl⟩, fun b o e => ?_, ⟨rs0, l0, by rw [upd_ne hrd]; exact e0⟩, [], rfl, upd_same⟩
    rw [upd_ne (ne_of_none e nd0)]
    exact s1 b o e
  · rintro i σ H' hi ⟨⟨y2, y5, y6, y7, rfl⟩, D⟩
    have hS' := D.same.seq hS
    obtain ⟨ds, dl, de⟩ := D.draws
    have dz : ds.length ≤ 1000 := by omega
    have z3 : (1000003 : Int) ≠ 0 := by decide
    have dz' : (ds.map V.int).length < sizeLine := by rw [List.length_map]; exact small1000 dz
    have after : ∀ (c : Int) (y6' y7' : Option V), tTail K { nx := fun σ H' => (∃ y2 y5 y6 y7, σ = [some (.ref a), some (.int 120), y2, some (.ref rr), some (.ref dd), y5, y6, y7]) ∧ DInv H rr dd ns.length (i + 1) H', rt := Q, bk := fun _ _ => False, ct := fun σ H' => (∃ y2 y5 y6 y7, σ = [some (.ref a), some (.int 120), y2, some (.ref rr), some (.ref dd), y5, y6, y7]) ∧ DInv H rr dd ns.length (i + 1) H' } [some (.ref a), some (.int 120), some (.int c), some (.ref rr), some (.ref dd), some (.int (0 + i)), y6', y7'] H' := fun c y6' y7' =>
      pure_tail de dz' fun y7'' x => ⟨⟨_, _, _, _, rfl⟩, D.app hrd nd0 x dl de⟩
    refine ⟨_, rfl, ?_⟩
    refine ⟨_, rfl, a, _, rfl, .inl hS', _, _, rfl, rfl, _, rfl, ite2 (fun c => ?_) (fun c => ?_)⟩
    · have c1 : 0 < ns.length := by
        have z := of_decide_eq_true c
        rw [List.length_map] at z
        omega
      have nz : (((ns.map V.int).length : Nat) : Int) ≠ 0 := by rw [List.length_map]; omega
      obtain ⟨m, hm, em⟩ : ∃ m : Nat, m < ns.length ∧ ((0 + (i : Int)).fmod (((ns.map V.int).length : Nat) : Int)) = (m : Int) := by
        rw [List.length_map]
        have p1 : (0 : Int) < (ns.length : Int) := by omega
        have h1 := Int.fmod_nonneg_of_pos (0 + (i : Int)) p1
        have h2 := Int.fmod_lt_of_pos (0 + (i : Int)) p1
        exact ⟨((0 + (i : Int)).fmod (ns.length : Int)).toNat, by omega, by omega⟩
      have atS : atI (ns.map V.int) ((0 + (i : Int)).fmod (((ns.map V.int).length : Nat) : Int)) = some (.int ns[m]) := at_of em (by rw [List.getElem?_map, List.getElem?_eq_getElem hm]; rfl)
      obtain ⟨rs, rl, re⟩ := D.rests
      have hm' : m < rs.length := by omega
      have atR : atI (rs.map V.int) ((0 + (i : Int)).fmod (((ns.map V.int).length : Nat) : Int)) = some (.int rs[m]) := at_of em (by rw [List.getElem?_map, List.getElem?_eq_getElem hm']; rfl)
      have ixR : ixN (rs.map V.int).length ((0 + (i : Int)).fmod (((ns.map V.int).length : Nat) : Int)) = some m := by
        rw [em]
        unfold ixN
        rw [if_pos (by omega), if_pos (by rw [List.length_map]; omega)]
        rfl
      refine ⟨_, rfl, _, rfl, a, _, rfl, .inl hS', _, _, rfl, rfl, nz, ?_⟩
      refine ⟨_, rfl, _, rfl, a, _, _, _, rfl, rfl, hS', atS, .inl ⟨_, rfl, ?_⟩⟩
      refine ⟨_, rfl, _, _, rfl, rfl, ⟨by decide, by decide, by decide⟩, _, _, rfl, rfl, _, rfl, ite2 (fun c2 => ?_) (fun c2 => ?_)⟩
      · refine ⟨_, rfl, _, rfl, rr, _, _, _, rfl, rfl, SqL.of re, atR, _, _, rfl, rfl, _, rfl, ite2 (fun c3 => ?_) (fun c3 => ?_)⟩
        · refine ⟨_, rfl, .inl ⟨rfl, _, SqL.of de⟩, _, rfl, _, rfl, rr, _, _, _, rfl, rfl, SqL.of re, atR, .inl ⟨_, rfl, _, _, rfl, rfl, z3, ?_⟩⟩
          refine ⟨dd, _, _, rfl, rfl, de, dz', ?_⟩
          have D2 := D.app hrd nd0 (rs[m].fmod 1000003) dl de
          have re2 : (upd H' dd (.lst (ds.map V.int ++ [.int (rs[m].fmod 1000003)]))) rr = some (.lst (rs.map V.int)) := by rw [upd_ne hrd]; exact re
          refine ⟨_, rfl, _, rfl, rr, _, _, _, rfl, rfl, SqL.of re2, atR, .inl ⟨_, rfl, _, _, rfl, rfl, ⟨by decide, by decide⟩, ?_⟩⟩
          refine ⟨_, rfl, _, rfl, rr, _, _, m, rfl, rfl, re2, ixR, ?_⟩
          exact ⟨⟨_, _, _, _, rfl⟩, D2.setR hrd nrr m _ rl⟩
        · exact after _ _ _
      · exact after _ _ _
    · exact after _ _ _
  · rintro σ H' ⟨⟨y2, y5, y6, y7, rfl⟩, D⟩
    obtain ⟨ds, dl, de⟩ := D.draws
    exact ⟨_, rfl, q dd ds H' D.same nd0 de⟩
end
end Mv
/-! _law_like: alike data of a depth. -/
namespace Mv
open PySem PySem.Spec PyProof.Rows L2 MvX
/-- None, a bool, an int, a text -/
def flat1 : V → Bool
  | .non => true
  | .bl _ => true
  | .int _ => true
  | .str _ => true
  | _ => false
/-- two values that are the same data, n deep at most -/
def Al (H : Hp) : Nat → V → V → Prop
  | 0, x, y => x = y ∧ flat1 y = true
  | n + 1, x, y => (x = y ∧ flat1 y = true) ∨ ∃ (a b : Addr) (xs ys : List V), x = .ref a ∧ y = .ref b ∧ ((H a = some (.lst xs) ∧ H b = some (.lst ys)) ∨ (H a = some (.tup xs) ∧ H b = some (.tup ys))) ∧ xs.length = ys.length ∧ ys.length ≤ 1000 ∧
      ∀ (i : Nat) (u v : V), xs[i]? = some u → ys[i]? = some v → Al H n u v
theorem Al.flat {H : Hp} {v : V} (h : flat1 v = true) : ∀ n, Al H n v v
  | 0 => ⟨rfl, h⟩
  | _ + 1 => .inl ⟨rfl, h⟩
theorem Al.up {H : Hp} : ∀ {n : Nat} {x y : V}, Al H n x y → Al H (n + 1) x y
  | 0, _, _, h => .inl h
  | n + 1, _, _, h => by
    rcases h with h | ⟨a, b, xs, ys, e1, e2, e3, e4, e5, e6⟩
    · exact .inl h
    · exact .inr ⟨a, b, xs, ys, e1, e2, e3, e4, e5, fun i u v h1 h2 => Al.up (e6 i u v h1 h2)⟩
theorem Al.mono {H : Hp} {n m : Nat} {x y : V} (h : Al H n x y) (hm : n ≤ m) : Al H m x y := by
  induction hm with
  | refl => exact h
  | step _ ih => exact ih.up
theorem Al.same {H H' : Hp} (s : Same H H') : ∀ {n : Nat} {x y : V}, Al H n x y → Al H' n x y
  | 0, _, _, h => h
  | n + 1, _, _, h => by
    rcases h with h | ⟨a, b, xs, ys, e1, e2, e3, e4, e5, e6⟩
    · exact .inl h
    · refine .inr ⟨a, b, xs, ys, e1, e2, ?_, e4, e5, fun i u v h1 h2 => Al.same s (e6 i u v h1 h2)⟩
      rcases e3 with ⟨z1, z2⟩ | ⟨z1, z2⟩
      · exact .inl ⟨s _ _ z1, s _ _ z2⟩
      · exact .inr ⟨s _ _ z1, s _ _ z2⟩
/-- nothing can be asked -/
def spNot : Sp := fun _ _ _ _ => False
def spLike : Nat → Sp
  | 0 => spNot
  | n + 1 => fun vs H Q _ => ∃ x y, vs = [x, y] ∧ Al H n x y ∧ Q (.bl true) H
theorem iteC {b : Bool} {A B : Prop} (hb : b = true) (h : A) : if b = true then A else B := by rw [if_pos hb]; exact h
theorem iteD {b : Bool} {A B : Prop} (hb : b = false) (h : B) : if b = true then A else B := by rw [hb]; exact iteF h
theorem qdec {Q : VK} {H : Hp} {x : V} (q : Q (.bl true) H) : Q (.bl (decide (x = x))) H := by rw [decide_eq_true rfl]; exact q
theorem Al.cut {H : Hp} {n : Nat} {x y : V} (h : Al H n x y) : (x = y ∧ flat1 y = true) ∨ ∃ (m : Nat) (a b : Addr) (xs ys : List V), n = m + 1 ∧ x = .ref a ∧ y = .ref b ∧ ((H a = some (.lst xs) ∧ H b = some (.lst ys)) ∨ (H a = some (.tup xs) ∧ H b = some (.tup ys))) ∧ xs.length = ys.length ∧ ys.length ≤ 1000 ∧
    ∀ (i : Nat) (u v : V), xs[i]? = some u → ys[i]? = some v → Al H m u v := by
  cases n with
  | zero => exact .inl h
  | succ n =>
    rcases h with h | ⟨a, b, xs, ys, h⟩
    · exact .inl h
    · exact .inr ⟨n, a, b, xs, ys, rfl, h⟩
theorem isi_step {K : PySem.W.Frag} {H : Hp} {Q : VK} {v : V} {t T : String} {b : Bool} (ty : TyX K H v (.type t)) (kb : kitB t T = some b) (q : Q (.bl b) H) : rIsi K [v, .ty T] H Q := ⟨v, .ty T, .type t, .type T, b, rfl, .ty T, ty, kit_ty kb, q⟩
theorem isi_arg {K : PySem.W.Frag} {H : Hp} {Q : VK} {σ : St} {i : Nat} {v : V} {t T : String} {b : Bool} (hv : σ[i]? = some (some v)) (ty : TyX K H v (.type t)) (kb : kitB t T = some b) (q : Q (.bl b) H) : tCB (rIsi K) (tCons (tVar i) (tCons (tC (.ty T)) tNil)) σ H Q := ⟨v, hv, isi_step ty kb q⟩
theorem kTT : kitB "tuple" "tuple" = some true := by decide +kernel
theorem kTL : kitB "tuple" "list" = some false := by decide +kernel
theorem kLT : kitB "list" "tuple" = some false := by decide +kernel
theorem kLL : kitB "list" "list" = some true := by decide +kernel
theorem kNT : kitB "NoneType" "tuple" = some false := by decide +kernel
theorem kNL : kitB "NoneType" "list" = some false := by decide +kernel
theorem kBT : kitB "bool" "tuple" = some false := by decide +kernel
theorem kBL : kitB "bool" "list" = some false := by decide +kernel
theorem kBB : kitB "bool" "bool" = some true := by decide +kernel
theorem kIT : kitB "int" "tuple" = some false := by decide +kernel
theorem kIL : kitB "int" "list" = some false := by decide +kernel
theorem kIB : kitB "int" "bool" = some false := by decide +kernel
theorem kIS : kitB "int" "str" = some false := by decide +kernel
theorem kII : kitB "int" "int" = some true := by decide +kernel
theorem kST : kitB "str" "tuple" = some false := by decide +kernel
theorem kSL : kitB "str" "list" = some false := by decide +kernel
theorem kSB : kitB "str" "bool" = some false := by decide +kernel
theorem kSS : kitB "str" "str" = some true := by decide +kernel
section
variable {P : Program} {w : World} {K : PySem.W.Frag} {mg : Str → Option Value} {base : Heap}
theorem scLike : FnScope ["_law_found", "_law_due", "_law_at"] ["_law_found", "_law_due"] (defScope sLike) := ⟨rfl, rfl, rfl, by decide +kernel, rfl, by decide +kernel, by decide +kernel⟩
theorem like_step {f : Addr} {fd : FuncData} {n : Nat} (F : Fun K "_law_like" "_law_like" sLike f fd) (B : Blt mg) (g : mg "_law_like" = some (.ref f)) (b : Binds K fd ["_law_found", "_law_due"] [])
    (G : FnOk P w K mg base CX0 n f fd ["_law_found", "_law_due"] (spLike n)) : FnOk P w K mg base CX0 (n + 1) f fd ["_law_found", "_law_due"] (spLike (n + 1)) := by
  refine F.ok scLike (fun vs H Q E h => ?_) (fun cdv A outer s H vs Q E hr h => ?_)
  · obtain ⟨_, _, rfl, _⟩ := h
    rfl
  obtain ⟨x, y, rfl, al, q⟩ := h
  refine ⟨_, pss_cons (ps_if (PW.pt (pw_or (pt_val (pe_callB call_isi (by rfl) B.isinst b_isinst (pa_cons (pv 1) (pa_cons (pe_bltn (v := .ty "tuple") (by rfl) B.tuple b_tuple rfl) pa_nil))))
        (pw_or1 (pt_val (pe_callB call_isi (by rfl) B.isinst b_isinst (pa_cons (pv 1) (pa_cons (pe_bltn (v := .ty "list") (by rfl) B.list b_list rfl) pa_nil)))))))
      (pss_cons (ps_if (PW.pt (pw_or (pt_cmpR op_ne (pe_callB call_isi (by rfl) B.isinst b_isinst (pa_cons (pv 0) (pa_cons (pe_bltn (v := .ty "tuple") (by rfl) B.tuple b_tuple rfl) pa_nil))) (pe_callB call_isi (by rfl) B.isinst b_isinst (pa_cons (pv 1) (pa_cons (pe_bltn (v := .ty "tuple") (by rfl) B.tuple b_tuple rfl) pa_nil))) (nomark _))
          (pw_or1 (pt_cmpR op_ne (pe_callB call_isi (by rfl) B.isinst b_isinst (pa_cons (pv 0) (pa_cons (pe_bltn (v := .ty "list") (by rfl) B.list b_list rfl) pa_nil))) (pe_callB call_isi (by rfl) B.isinst b_isinst (pa_cons (pv 1) (pa_cons (pe_bltn (v := .ty "list") (by rfl) B.list b_list rfl) pa_nil))) (nomark _)))))
        (pss_one (ps_ret pe_bl)) pss_nil)
      (pss_cons (ps_if (pt_cmpR op_ne (pe_callB call_len_seq (by rfl) B.len b_len (pa_cons (pv 0) pa_nil)) (pe_callB call_len_seq (by rfl) B.len b_len (pa_cons (pv 1) pa_nil)) (nomark _)) (pss_one (ps_ret pe_bl)) pss_nil)
      (pss_cons (ps_for PassesOwn.never rfl (pi_range1 (by rfl) B.range (pa_cons (pe_callB call_len_seq (by rfl) B.len b_len (pa_cons (pv 1) pa_nil)) pa_nil)) (pg_name (i := 2) scLike.nd rfl (.inl rfl))
        (pss_one (ps_if (pt_not (pt_val (pe_call G hr (by rfl) g F.kp b .nil pass0 (pa_cons (pe_ix ix_seq (pv 0) (pv 2) (fun _ _ => rfl)) (pa_cons (pe_ix ix_seq (pv 1) (pv 2) (fun _ _ => rfl)) pa_nil))))) (pss_one (ps_ret pe_bl)) pss_nil)))
      (pss_one (ps_ret pe_bl))))) pss_nil)
    (pss_cons (ps_if (pt_cmp (pc_isN (pv 1))) (pss_one (ps_ret (pe_cmp (pc_isN (pv 0)) rfl))) pss_nil)
    (pss_cons (ps_if (PW.pt (pw_or (pt_val (pe_callB call_isi (by rfl) B.isinst b_isinst (pa_cons (pv 1) (pa_cons (pe_bltn (v := .ty "bool") (by rfl) B.bool b_bool rfl) pa_nil)))) (pw_or1 (pt_val (pe_callB call_isi (by rfl) B.isinst b_isinst (pa_cons (pv 0) (pa_cons (pe_bltn (v := .ty "bool") (by rfl) B.bool b_bool rfl) pa_nil)))))))
      (pss_one (ps_ret (pe_and (pe_callB call_isi (by rfl) B.isinst b_isinst (pa_cons (pv 1) (pa_cons (pe_bltn (v := .ty "bool") (by rfl) B.bool b_bool rfl) pa_nil))) (pe_and (pe_callB call_isi (by rfl) B.isinst b_isinst (pa_cons (pv 0) (pa_cons (pe_bltn (v := .ty "bool") (by rfl) B.bool b_bool rfl) pa_nil))) (pe_one (pe_cmpR op_eq (pv 0) (pv 1) (nomark _))))))) pss_nil)
    (pss_cons (ps_if (pt_val (pe_callB call_isi (by rfl) B.isinst b_isinst (pa_cons (pv 1) (pa_cons (pe_bltn (v := .ty "str") (by rfl) B.str b_str rfl) pa_nil))))
      (pss_one (ps_ret (pe_and (pe_callB call_isi (by rfl) B.isinst b_isinst (pa_cons (pv 0) (pa_cons (pe_bltn (v := .ty "str") (by rfl) B.str b_str rfl) pa_nil))) (pe_one (pe_cmpR op_eq (pv 0) (pv 1) (nomark _)))))) pss_nil)
    (pss_one (ps_ret (pe_and (pe_callB call_isi (by rfl) B.isinst b_isinst (pa_cons (pv 0) (pa_cons (pe_bltn (v := .ty "int") (by rfl) B.int b_int rfl) pa_nil))) (pe_one (pe_cmpR op_eq (pv 0) (pv 1) (nomark _))))))))), ?_⟩
  rcases al.cut with ⟨rfl, hf⟩ | ⟨m, a, b', xs, ys, rfl, rfl, rfl, ee, hl, hz, ch⟩
  · cases x with
    | non =>
      refine isi_arg rfl (.base .non) kNT ⟨_, rfl, iteF <| isi_arg rfl (.base .non) kNL ⟨_, rfl, iteF ?_⟩⟩
      exact ⟨_, rfl, _, rfl, iteC (decide_eq_true rfl) ⟨_, rfl, qdec q⟩⟩
    | bl k =>
      refine isi_arg rfl (.base (.bl k)) kBT ⟨_, rfl, iteF <| isi_arg rfl (.base (.bl k)) kBL ⟨_, rfl, iteF ?_⟩⟩
      refine ⟨_, rfl, _, rfl, iteD (decide_eq_false (fun z => nomatch z)) ?_⟩
      refine isi_arg rfl (.base (.bl k)) kBB ⟨_, rfl, iteT ?_⟩
      exact isi_arg rfl (.base (.bl k)) kBB ⟨_, rfl, iteT <| isi_arg rfl (.base (.bl k)) kBB ⟨_, rfl, iteT ⟨_, rfl, _, rfl, rfl, qdec q⟩⟩⟩
    | int k =>
      refine isi_arg rfl (.base (.int k)) kIT ⟨_, rfl, iteF <| isi_arg rfl (.base (.int k)) kIL ⟨_, rfl, iteF ?_⟩⟩
      refine ⟨_, rfl, _, rfl, iteD (decide_eq_false (fun z => nomatch z)) ?_⟩
      refine isi_arg rfl (.base (.int k)) kIB ⟨_, rfl, iteF <| isi_arg rfl (.base (.int k)) kIB ⟨_, rfl, iteF ?_⟩⟩
      refine isi_arg rfl (.base (.int k)) kIS ⟨_, rfl, iteF ?_⟩
      exact isi_arg rfl (.base (.int k)) kII ⟨_, rfl, iteT ⟨_, rfl, _, rfl, rfl, qdec q⟩⟩
    | str k =>
      refine isi_arg rfl (.base (.str k)) kST ⟨_, rfl, iteF <| isi_arg rfl (.base (.str k)) kSL ⟨_, rfl, iteF ?_⟩⟩
      refine ⟨_, rfl, _, rfl, iteD (decide_eq_false (fun z => nomatch z)) ?_⟩
      refine isi_arg rfl (.base (.str k)) kSB ⟨_, rfl, iteF <| isi_arg rfl (.base (.str k)) kSB ⟨_, rfl, iteF ?_⟩⟩
      refine isi_arg rfl (.base (.str k)) kSS ⟨_, rfl, iteT ?_⟩
      exact isi_arg rfl (.base (.str k)) kSS ⟨_, rfl, iteT ⟨_, rfl, _, rfl, rfl, qdec q⟩⟩
    | byt k => cases hf
    | flt k => cases hf
    | ref k => cases hf
    | ty k => cases hf
  · have bz : (ys.length : Int) < 2 ^ 62 := by omega
    have bz0 : -(2 ^ 62) ≤ (ys.length : Int) := by omega
    have at1 : ∀ {zs : List V} {i : Nat} {v : V}, zs[i]? = some v → atI zs (0 + (i : Int)) = some v := fun h => at_of (by omega) h
    rcases ee with ⟨e1, e2⟩ | ⟨e1, e2⟩
    · refine isi_arg rfl (.base (.lst e2)) kLT ⟨_, rfl, iteF <| isi_arg rfl (.base (.lst e2)) kLL ⟨_, rfl, iteT ?_⟩⟩
      · refine isi_arg rfl (.base (.lst e1)) kLT <| isi_arg rfl (.base (.lst e2)) kLT ⟨rfl, _, rfl, iteD (by rfl) ?_⟩
        refine isi_arg rfl (.base (.lst e1)) kLL <| isi_arg rfl (.base (.lst e2)) kLL ⟨rfl, _, rfl, iteD (by rfl) ?_⟩
        refine ⟨_, rfl, a, xs, rfl, .inl (SqL.of e1), _, rfl, b', ys, rfl, .inl (SqL.of e2), rfl, _, rfl, iteNS (by rw [hl]) ?_⟩
        refine ⟨_, rfl, b', ys, rfl, .inl (SqL.of e2), _, rfl, bz0, bz, ?_⟩
        refine for_range (lo := 0) (n := ys.length) (fun i σ H' => (∃ y2, σ = [some (.ref a), some (.ref b'), y2]) ∧ H' = H) ⟨⟨_, rfl⟩, rfl⟩ ?_ ?_
        · rintro i σ H' hi ⟨⟨y2, rfl⟩, rfl⟩
          obtain ⟨u, hu⟩ : ∃ u, xs[i]? = some u := ⟨_, List.getElem?_eq_getElem (by omega)⟩
          obtain ⟨v, hv⟩ : ∃ v, ys[i]? = some v := ⟨_, List.getElem?_eq_getElem hi⟩
          refine ⟨_, rfl, _, rfl, .inl ⟨a, xs, _, u, rfl, rfl, SqL.of e1, at1 hu, ?_⟩⟩
          refine ⟨_, rfl, _, rfl, .inl ⟨b', ys, _, v, rfl, rfl, SqL.of e2, at1 hv, ?_⟩⟩
          exact ⟨u, v, rfl, ch i u v hu hv, _, rfl, iteF ⟨⟨_, rfl⟩, rfl⟩⟩
        · rintro σ H' ⟨⟨y2, rfl⟩, rfl⟩
          exact q
    · refine isi_arg rfl (.base (.tup e2)) kTT ⟨_, rfl, iteT ?_⟩
      · refine isi_arg rfl (.base (.tup e1)) kTT <| isi_arg rfl (.base (.tup e2)) kTT ⟨rfl, _, rfl, iteD (by rfl) ?_⟩
        refine isi_arg rfl (.base (.tup e1)) kTL <| isi_arg rfl (.base (.tup e2)) kTL ⟨rfl, _, rfl, iteD (by rfl) ?_⟩
        refine ⟨_, rfl, a, xs, rfl, .inr (SqT.of e1), _, rfl, b', ys, rfl, .inr (SqT.of e2), rfl, _, rfl, iteNS (by rw [hl]) ?_⟩
        refine ⟨_, rfl, b', ys, rfl, .inr (SqT.of e2), _, rfl, bz0, bz, ?_⟩
        refine for_range (lo := 0) (n := ys.length) (fun i σ H' => (∃ y2, σ = [some (.ref a), some (.ref b'), y2]) ∧ H' = H) ⟨⟨_, rfl⟩, rfl⟩ ?_ ?_
        · rintro i σ H' hi ⟨⟨y2, rfl⟩, rfl⟩
          obtain ⟨u, hu⟩ : ∃ u, xs[i]? = some u := ⟨_, List.getElem?_eq_getElem (by omega)⟩
          obtain ⟨v, hv⟩ : ∃ v, ys[i]? = some v := ⟨_, List.getElem?_eq_getElem hi⟩
          refine ⟨_, rfl, _, rfl, .inr (.inl ⟨a, xs, _, u, rfl, rfl, SqT.of e1, at1 hu, ?_⟩)⟩
          refine ⟨_, rfl, _, rfl, .inr (.inl ⟨b', ys, _, v, rfl, rfl, SqT.of e2, at1 hv, ?_⟩)⟩
          exact ⟨u, v, rfl, ch i u v hu hv, _, rfl, iteF ⟨⟨_, rfl⟩, rfl⟩⟩
        · rintro σ H' ⟨⟨y2, rfl⟩, rfl⟩
          exact q
/-- .. for data of any depth -/
theorem ok_like {f : Addr} {fd : FuncData} (F : Fun K "_law_like" "_law_like" sLike f fd) (B : Blt mg) (g : mg "_law_like" = some (.ref f)) (b : Binds K fd ["_law_found", "_law_due"] []) : ∀ n, FnOk P w K mg base CX0 n f fd ["_law_found", "_law_due"] (spLike n)
  | 0 => ⟨fun vs H Q E h => False.elim h, fun A outer s H args us vs Q E _ _ _ _ h => False.elim h⟩
  | n + 1 => like_step F B g b (ok_like F B g b n)
end
end Mv
/-! _law_odd: drawn data of a depth. -/
namespace Mv
open PySem PySem.Spec PyProof.Rows L2 MvX
/-- what is new in H' -/
def nw (H H' : Hp) : Hp := fun b => match H b with
  | none => H' b
  | some _ => none
theorem nw_of {H H' : Hp} {b : Addr} (h : H b = none) : nw H H' b = H' b := by unfold nw; rw [h]
theorem nw_some {H H' : Hp} {b : Addr} {o : HO} (h : nw H H' b = some o) : H b = none ∧ H' b = some o := by
  unfold nw at h
  cases e : H b with
  | none => rw [e] at h; exact ⟨rfl, h⟩
  | some u => rw [e] at h; cases h
/-- the hand has gone on; all else stands -/
structure Went (H H' : Hp) (h dl : Addr) : Prop where
  keep : ∀ b o, b ≠ h → H b = some o → H' b = some o
  hand : ∃ p : Int, 0 ≤ p ∧ H' h = some (.lst [.ref dl, .int p])
theorem Went.trans {H H1 H2 : Hp} {h dl : Addr} (a : Went H H1 h dl) (b : Went H1 H2 h dl) : Went H H2 h dl := ⟨fun c o n e => b.keep c o n (a.keep c o n e), b.hand⟩
theorem Went.new {H H1 : Hp} {h dl p : Addr} (a : Went H H1 h dl) (o : HO) (n : H1 p = none) : Went H (upd H1 p o) h dl := by
  obtain ⟨q, h0, e⟩ := a.hand
  exact ⟨fun c u nc z => by rw [upd_ne (ne_of_none (a.keep c u nc z) n)]; exact a.keep c u nc z, q, h0, by rw [upd_ne (ne_of_none e n)]; exact e⟩
theorem Went.none {H H1 : Hp} {h dl b : Addr} (a : Went H H1 h dl) (e : H1 b = none) : H b = none := by
  cases q : H b with
  | none => rfl
  | some o =>
    by_cases hb : b = h
    · obtain ⟨p, _, z⟩ := a.hand
      rw [hb, z] at e
      cases e
    · rw [a.keep b o hb q] at e
      cases e
theorem Went.took {H : Hp} {h dl : Addr} {p : Int} {v : V} (h0 : 0 ≤ p) (e : H h = some (.lst [.ref dl, v])) : Went H (upd H h (.lst [.ref dl, .int (p + 1)])) h dl :=
  ⟨fun b o n z => by rw [upd_ne n]; exact z, p + 1, by omega, upd_same⟩
theorem Went.nws {H H1 H' : Hp} {h dl : Addr} (a : Went H H1 h dl) : Same (nw H1 H') (nw H H') := fun b o e => by
  obtain ⟨e1, e2⟩ := nw_some e
  rw [nw_of (a.none e1)]
  exact e2
/-- drawn data, one level more than told, out of new objects -/
def spOdd (K : PySem.W.Frag) : Nat → Sp
  | 0 => spNot
  | n + 1 => fun vs H Q _ => ∃ (h dl : Addr) (ns : List Int) (p : Int), vs = [.ref h, .int n] ∧ H h = some (.lst [.ref dl, .int p]) ∧ H dl = some (.lst (ns.map V.int)) ∧ 0 ≤ p ∧ ∀ v H', Went H H' h dl → Al (nw H H') (n + 1) v v → Q v H'
def nOdd : List Str := ["_law_hand", "_law_depth", "_law_kind", "_law_parts", "_law_values", "_law_k"]
theorem scOdd : FnScope nOdd ["_law_hand", "_law_depth"] (defScope sOdd) := ⟨rfl, rfl, rfl, by decide +kernel, rfl, by decide +kernel, by decide +kernel⟩
/-- the written values, one drawn -/
def tVals (K : PySem.W.Frag) : TS := tSeq (tAsg (tLst (tCons (tC (.bl true)) (tCons (tC (.bl false)) (tCons (tC .non) (tCons (tC (.str "")) (tCons (tC (.str "a1")) (tCons (tC (.int 0)) (tCons (tC (.int 1)) (tCons (tUn (rU fun i => .int (-i)) (tC (.int 1)))
    (tCons (tC (.int 2)) (tCons (tC (.int 7)) (tCons (tC (.int 31)) (tCons (tC (.int 37)) (tCons (tOp (rI CPow fun i j => .int (i ^ j.toNat)) (tC (.int 10)) (tC (.int 30))) (tCons (tUn (rU fun i => .int (-i)) (tOp (rI CPow fun i j => .int (i ^ j.toNat)) (tC (.int 10)) (tC (.int 30))))
    (tCons (tTup tNil) (tCons (tLst tNil) tNil))))))))))))))))) (gName 4)) (tRet (tOp (rIxL K) (tVar 4) (tCall (spTake K) [] E0 (tCons (tVar 0) (tCons (tC (.int 16)) tNil)))))
theorem pure_vals {K : PySem.W.Frag} {H : Hp} {h dl : Addr} {ns : List Int} {p : Int} {y1 y2 y3 y4 y5 : Option V} {D : Ends} (e1 : H h = some (.lst [.ref dl, .int p])) (e2 : H dl = some (.lst (ns.map V.int))) (h0 : 0 ≤ p)
    (q : ∀ v H', Went H H' h dl → Al (nw H H') 1 v v → D.rt v H') : tVals K D [some (.ref h), y1, y2, y3, y4, y5] H := by
  have cp : CPow 10 30 := ⟨by decide, by decide, by decide⟩
  refine ⟨1, rfl, 10, 30, rfl, rfl, cp, 10, 30, rfl, rfl, cp, _, rfl, ?_⟩
  refine ⟨Nat.zero_le _, fun t nt => ⟨Nat.zero_le _, fun l nl => ⟨by show 16 ≤ sizeLine; decide, fun xs nx => ?_⟩⟩⟩
  have W0 : Went H H h dl := ⟨fun _ _ _ z => z, p, h0, e1⟩
  have W3 := ((W0.new (.tup []) nt).new (.lst []) nl)
  have nt0 : H t = none := nt
  have nl0 : H l = none := (W0.new (.tup []) nt).none nl
  have nx0 : H xs = none := W3.none nx
  have tl : t ≠ l := ne_of_none (upd_same (H := H) (a := t) (o := .tup [])) nl
  have ht3 : (upd (upd H t (.tup [])) l (.lst [])) t = some (.tup []) := by rw [upd_ne tl]; exact upd_same
  have tx : t ≠ xs := ne_of_none ht3 nx
  have lx : l ≠ xs := ne_of_none upd_same nx
  generalize hH4 : (upd (upd (upd H t (.tup [])) l (.lst [])) xs (.lst _)) = H4
  have W4 : Went H H4 h dl := by rw [← hH4]; exact W3.new _ nx
  have ex : H4 xs = some (.lst [.bl true, .bl false, .non, .str "", .str "a1", .int 0, .int 1, .int (-1), .int 2, .int 7, .int 31, .int 37, .int (10 ^ 30), .int (-(10 ^ 30)), .ref t, .ref l]) := by rw [← hH4]; exact upd_same
  have et : H4 t = some (.tup []) := by rw [← hH4, upd_ne tx]; exact ht3
  have el : H4 l = some (.lst []) := by rw [← hH4, upd_ne lx]; exact upd_same
  have S4 : Same H H4 := by
    rw [← hH4]
    exact ((same_new nt _).trans (same_new nl _)).trans (same_new nx _)
  have hx : xs ≠ h := fun z => by rw [z, e1] at nx0; cases nx0
  have ht : t ≠ h := fun z => by rw [z, e1] at nt0; cases nt0
  have hl : l ≠ h := fun z => by rw [z, e1] at nl0; cases nl0
  refine ⟨_, rfl, _, rfl, h, dl, ns, p, 16, rfl, S4 _ _ e1, S4 _ _ e2, h0, by decide, fun r r0 r1 => ?_⟩
  have W5 : Went H (upd H4 h (.lst [.ref dl, .int (p + 1)])) h dl := W4.trans (Went.took h0 (S4 _ _ e1))
  have ex5 := (upd_ne (H := H4) (o := .lst [.ref dl, .int (p + 1)]) hx).trans ex
  have et5 : nw H (upd H4 h (.lst [.ref dl, .int (p + 1)])) t = some (.tup []) := by rw [nw_of nt0, upd_ne ht]; exact et
  have el5 : nw H (upd H4 h (.lst [.ref dl, .int (p + 1)])) l = some (.lst []) := by rw [nw_of nl0, upd_ne hl]; exact el
  obtain ⟨v, hv⟩ : ∃ v, ([.bl true, .bl false, .non, .str "", .str "a1", .int 0, .int 1, .int (-1), .int 2, .int 7, .int 31, .int 37, .int (10 ^ 30), .int (-(10 ^ 30)), .ref t, .ref l] : List V)[r.toNat]? = some v :=
    ⟨_, List.getElem?_eq_getElem (by show r.toNat < 16; omega)⟩
  refine ⟨xs, _, r, v, rfl, rfl, SqL.of ex5, at_of (j := r.toNat) (by omega) hv, q v _ W5 ?_⟩
  have at_ : Al (nw H (upd H4 h (.lst [.ref dl, .int (p + 1)]))) 1 (.ref t) (.ref t) := .inr ⟨t, t, [], [], rfl, rfl, .inr ⟨et5, et5⟩, rfl, by simp, fun i u v h => by simp at h⟩
  have al_ : Al (nw H (upd H4 h (.lst [.ref dl, .int (p + 1)]))) 1 (.ref l) (.ref l) := .inr ⟨l, l, [], [], rfl, rfl, .inl ⟨el5, el5⟩, rfl, by simp, fun i u v h => by simp at h⟩
  have hm := List.mem_of_getElem? hv
  simp only [List.mem_cons, List.not_mem_nil, or_false] at hm
  rcases hm with rfl | rfl | rfl | rfl | rfl | rfl | rfl | rfl | rfl | rfl | rfl | rfl | rfl | rfl | rfl | rfl
  all_goals first
    | exact Al.flat rfl 1
    | exact at_
    | exact al_
section
variable {P : Program} {w : World} {K : PySem.W.Frag} {mg : Str → Option Value} {base : Heap}
theorem odd_step {f fT : Addr} {fd fdT : FuncData} {n : Nat} (F : Fun K "_law_odd" "_law_odd" sOdd f fd) (B : Blt mg) (g : mg "_law_odd" = some (.ref f)) (b : Binds K fd ["_law_hand", "_law_depth"] [])
    (GT : FnOk P w K mg base CX0 1 fT fdT ["_law_hand", "_law_many"] (spTake K)) (kT : PySem.W.keepIn K (.ref fT) = true) (gT : mg "_law_take" = some (.ref fT)) (bT : Binds K fdT ["_law_hand", "_law_many"] [])
    (G : FnOk P w K mg base CX0 (n + 1) f fd ["_law_hand", "_law_depth"] (spOdd K n)) : FnOk P w K mg base CX0 (n + 2) f fd ["_law_hand", "_law_depth"] (spOdd K (n + 1)) := by
  refine F.ok scOdd (fun vs H Q E h => ?_) (fun cdv A outer s H vs Q E hr h => ?_)
  · obtain ⟨_, _, _, _, rfl, _⟩ := h
    rfl
  obtain ⟨h, dl, ns, p, rfl, e1, e2, h0, q⟩ := h
  have hr1 : Room 1 _ := hr.mono (by omega)
  refine ⟨_, pss_cons (ps_set (i := 2) scOdd.nd rfl (.inl rfl) (pe_call GT hr1 (by rfl) gT kT bT .nil pass0 (pa_cons (pv 0) (pa_cons pe_int pa_nil))))
    (pss_cons (ps_if (PW.pt (pw_and (pt_cmpR op_gt (pv 1) pe_int (nomark _)) (pw_and1 (pt_cmpR op_gt (pv 2) pe_int (nomark _)))))
      (pss_cons (ps_setLc (i := 3) (own := [("_law_k", 5)]) (g := gName 5) (tt := tYes) rfl scOdd.nd rfl rfl (sw_true rfl rfl rfl (by decide +kernel)) (pi_range1 (by rfl) B.range (pa_cons (pe_call GT hr1 (by rfl) gT kT bT .nil pass0 (pa_cons (pv 0) (pa_cons pe_int pa_nil))) pa_nil))
        (blkOk_by (N := nOdd) (sc := defScope sOdd) (by decide +kernel)) (fun _ _ _ _ _ => pg_name (i := 5) scOdd.nd rfl (Or.inl rfl)) (fun _ _ _ _ _ => pts_nil)
        (fun _ _ _ _ _ => pe_call G hr (by rfl) g F.kp b .nil pass0 (pa_cons (pv 0) (pa_cons (pe_op op_sub (pv 1) pe_int) pa_nil))))
      (pss_one (ps_ret (pe_ix ix_list (pe_lst (pa_cons (pv 3) (pa_cons (pe_callTy call_tuple_of (by rfl) B.tuple b_tuple (pa_cons (pv 3) pa_nil)) pa_nil))) (pe_op op_sub (pv 2) pe_int) (fun _ _ => rfl))))) pss_nil)
    (show PSs _ _ (tVals K) from (pss_cons (ps_set (i := 4) scOdd.nd rfl (.inl rfl) (pe_lst (pa_cons pe_bl (pa_cons pe_bl (pa_cons pe_non (pa_cons pe_str (pa_cons pe_str (pa_cons pe_int (pa_cons pe_int (pa_cons (pe_un un_neg pe_int)
        (pa_cons pe_int (pa_cons pe_int (pa_cons pe_int (pa_cons pe_int (pa_cons (pe_op op_pow pe_int pe_int) (pa_cons (pe_un un_neg (pe_op op_pow pe_int pe_int)) (pa_cons (pe_tup pa_nil) (pa_cons (pe_lst pa_nil) pa_nil))))))))))))))))))
      (pss_one (ps_ret (pe_ix ix_list (pv 4) (pe_call GT hr1 (by rfl) gT kT bT .nil pass0 (pa_cons (pv 0) (pa_cons pe_int pa_nil))) (fun _ _ => rfl))))))), ?_⟩
  refine ⟨_, rfl, h, dl, ns, p, 9, rfl, e1, e2, h0, by decide, fun k k0 k1 => ?_⟩
  have W1 := Went.took h0 e1
  have hdl := hand_ne e1 e2
  have e1' : (upd H h (.lst [.ref dl, .int (p + 1)])) h = some (.lst [.ref dl, .int (p + 1)]) := upd_same
  have e2' : (upd H h (.lst [.ref dl, .int (p + 1)])) dl = some (.lst (ns.map V.int)) := by rw [upd_ne hdl]; exact e2
  generalize upd H h (.lst [.ref dl, .int (p + 1)]) = H1 at W1 e1' e2'
  have vals : tVals K { nx := fun _ H' => Q .non H', rt := Q } [some (.ref h), some (.int n), some (.int k), none, none, none] H1 :=
    pure_vals e1' e2' (by omega) fun v H' W' al => q v H' (W1.trans W') ((al.same W1.nws).mono (by omega))
  refine ⟨_, rfl, n, 0, rfl, rfl, _, rfl, ite2 (fun c1 => ⟨_, rfl, k, 6, rfl, rfl, _, rfl, ite2 (fun c2 => ?_) (fun c2 => vals)⟩) (fun c1 => iteF vals)⟩
  have c1' : 0 < n := by
    have z := of_decide_eq_true c1
    omega
  have c2' : 6 < k := of_decide_eq_true c2
  obtain ⟨m, rfl⟩ : ∃ m, n = m + 1 := ⟨n - 1, by omega⟩
  refine ⟨_, rfl, h, dl, ns, p + 1, 4, rfl, e1', e2', by omega, by decide, fun r r0 r1 => ⟨r, rfl, by omega, by omega, fun D nD => ?_⟩⟩
  have W2 := W1.trans (Went.took (p := p + 1) (by omega) e1')
  have e2'' : (upd H1 h (.lst [.ref dl, .int (p + 1 + 1)])) dl = some (.lst (ns.map V.int)) := by rw [upd_ne hdl]; exact e2'
  generalize upd H1 h (.lst [.ref dl, .int (p + 1 + 1)]) = H2 at W2 e2'' nD
  have nD0 : H D = none := W2.none nD
  have hD : D ≠ h := fun z => by rw [z, e1] at nD0; cases nD0
  have dD : D ≠ dl := fun z => by rw [z, e2] at nD0; cases nD0
  refine lc_range (lo := 0) (n := r.toNat) (fun i H' => Went H H' h dl ∧ H' dl = some (.lst (ns.map V.int)) ∧ ∃ vs : List V, vs.length = i ∧ H' D = some (.lst vs) ∧ ∀ x ∈ vs, Al (nw (upd H D (.lst [])) H') (m + 1) x x) ?_ ?_ ?_
  · exact ⟨W2.new _ nD, by rw [upd_ne (Ne.symm dD)]; exact e2'', [], rfl, upd_same, fun x hx => by cases hx⟩
  · rintro i H' hi ⟨W', ed', vs, lv, eD, av⟩
    obtain ⟨p', hp', eh'⟩ := W'.hand
    refine ⟨rfl, ?_⟩
    refine ⟨_, rfl, _, rfl, ((m + 1 : Nat) : Int), 1, rfl, rfl, h, dl, ns, p', ?_, eh', ed', hp', fun v H'' W'' al => ?_⟩
    · have z : ((m + 1 : Nat) : Int) - 1 = (m : Int) := by omega
      show [V.ref h, V.int (((m + 1 : Nat) : Int) - 1)] = _
      rw [z]
    · have eD'' := W''.keep D _ hD eD
      have ed'' := W''.keep dl _ hdl ed'
      have WW := W'.trans W''
      refine ⟨vs, eD'', by rw [lv]; exact small1000 (by omega), ⟨fun b o nb e => ?_, ?_⟩, by rw [upd_ne (Ne.symm dD)]; exact ed'', vs ++ [v], by rw [List.length_append, lv]; rfl, upd_same, fun x hx => ?_⟩
      · rw [upd_ne (ne_of_none e nD0)]
        exact WW.keep b o nb e
      · obtain ⟨p2, hp2, eh2⟩ := WW.hand
        exact ⟨p2, hp2, by rw [upd_ne (Ne.symm hD)]; exact eh2⟩
      · have old : Same (nw (upd H D (.lst [])) H') (nw (upd H D (.lst [])) (upd H'' D (.lst (vs ++ [v])))) := fun b o e => by
          obtain ⟨z1, z2⟩ := nw_some e
          have bD : b ≠ D := fun z => by rw [z, upd_same] at z1; cases z1
          have bh : b ≠ h := fun z => by rw [z, upd_ne (Ne.symm hD), e1] at z1; cases z1
          rw [nw_of z1, upd_ne bD]
          exact W''.keep b o bh z2
        have new : Same (nw H' H'') (nw (upd H D (.lst [])) (upd H'' D (.lst (vs ++ [v])))) := fun b o e => by
          obtain ⟨z1, z2⟩ := nw_some e
          have bD : b ≠ D := fun z => by rw [z, eD] at z1; cases z1
          have zb : H b = none := W'.none z1
          rw [nw_of (by rw [upd_ne bD]; exact zb), upd_ne bD]
          exact z2
        rcases List.mem_append.mp hx with hx | hx
        · exact (av x hx).same old
        · rw [List.mem_singleton.mp hx]
          exact al.same new
  · rintro H3 ⟨W3, ed3, vs, lv, eD, av⟩
    refine ⟨_, rfl, _, rfl, D, vs, rfl, .inl ⟨SqL.of eD, fun t nt => ⟨by show 2 ≤ sizeLine; decide, fun l nl => ?_⟩⟩⟩
    have W5 := (W3.new (.tup vs) nt).new (.lst [.ref D, .ref t]) nl
    have tl : t ≠ l := ne_of_none upd_same nl
    have nt0 : H t = none := W3.none nt
    have S5 : Same H3 (upd (upd H3 t (.tup vs)) l (.lst [.ref D, .ref t])) := (same_new nt _).trans (same_new nl _)
    have et : (upd (upd H3 t (.tup vs)) l (.lst [.ref D, .ref t])) t = some (.tup vs) := by rw [upd_ne tl]; exact upd_same
    have el : (upd (upd H3 t (.tup vs)) l (.lst [.ref D, .ref t])) l = some (.lst [.ref D, .ref t]) := upd_same
    have eD5 := S5 _ _ eD
    generalize upd (upd H3 t (.tup vs)) l (.lst [.ref D, .ref t]) = H5 at W5 S5 et el eD5
    have ch : ∀ (i : Nat) (u v : V), vs[i]? = some u → vs[i]? = some v → Al (nw H H5) (m + 1) u v := fun i u v hu hv => by
      rw [hu] at hv
      cases hv
      refine (av u (List.mem_of_getElem? hu)).same fun b o e => ?_
      obtain ⟨z1, z2⟩ := nw_some e
      have bD : b ≠ D := fun z => by rw [z, upd_same] at z1; cases z1
      rw [upd_ne bD] at z1
      rw [nw_of z1]
      exact S5 _ _ z2
    have aD : Al (nw H H5) (m + 1 + 1) (.ref D) (.ref D) := .inr ⟨D, D, vs, vs, rfl, rfl, .inl ⟨by rw [nw_of nD0]; exact eD5, by rw [nw_of nD0]; exact eD5⟩, rfl, by omega, ch⟩
    have aT : Al (nw H H5) (m + 1 + 1) (.ref t) (.ref t) := .inr ⟨t, t, vs, vs, rfl, rfl, .inr ⟨by rw [nw_of nt0]; exact et, by rw [nw_of nt0]; exact et⟩, rfl, by omega, ch⟩
    refine ⟨_, rfl, k, 7, rfl, rfl, l, [.ref D, .ref t], k - 7, ?_⟩
    by_cases hk : k = 7
    · exact ⟨.ref D, rfl, rfl, SqL.of el, at_of (j := 0) (by omega) rfl, q _ _ W5 aD⟩
    · exact ⟨.ref t, rfl, rfl, SqL.of el, at_of (j := 1) (by omega) rfl, q _ _ W5 aT⟩
theorem ok_odd {f fT : Addr} {fd fdT : FuncData} (F : Fun K "_law_odd" "_law_odd" sOdd f fd) (B : Blt mg) (g : mg "_law_odd" = some (.ref f)) (b : Binds K fd ["_law_hand", "_law_depth"] [])
    (GT : FnOk P w K mg base CX0 1 fT fdT ["_law_hand", "_law_many"] (spTake K)) (kT : PySem.W.keepIn K (.ref fT) = true) (gT : mg "_law_take" = some (.ref fT)) (bT : Binds K fdT ["_law_hand", "_law_many"] []) :
    ∀ n, FnOk P w K mg base CX0 (n + 1) f fd ["_law_hand", "_law_depth"] (spOdd K n)
  | 0 => ⟨fun vs H Q E h => False.elim h, fun A outer s H args us vs Q E _ _ _ _ h => False.elim h⟩
  | n + 1 => odd_step F B g b GT kT gT bT (ok_odd F B g b GT kT gT bT n)
end
end Mv
/-! the seventeen classes; _law_kinds. -/
namespace Mv
open PySem PySem.Spec PyProof.Rows L2 MvX
def clsName (k : Nat) : Str := (["InvalidNumber", "InvalidCluster", "InvalidWishes", "InvalidPlacing", "InvalidLot", "InvalidMoves", "InvalidPairs", "InvalidPlan", "InvalidOutcomes", "InvalidJournal", "InvalidText", "InvalidLine", "UnknownWord", "TooMany", "Undefined", "NothingToUndo", "InvalidDeed"] : List Str).getD k ""
/-- the field of a class with one, the two of one with two -/
def fl1 (k : Nat) : Str := (["value", "", "value", "value", "value", "value", "value", "value", "value", "place", "", "", "word", "what", "what", "word", "value"] : List Str).getD k ""
def flA (k : Nat) : Str := (["", "part", "", "", "", "", "", "", "", "", "text", "line"] : List Str).getD k ""
def flB (k : Nat) : Str := (["", "place", "", "", "", "", "", "", "", "", "at", "at"] : List Str).getD k ""
def isTwo (k : Nat) : Bool := k == 1 || k == 10 || k == 11
def fs1 (f : Str) : List V → List (Str × V)
  | [v] => [(f, v)]
  | _ => []
def fs2 (f g : Str) : List V → List (Str × V)
  | [v, u] => [(g, u), (f, v)]
  | _ => []
def fs2r (f g : Str) : List V → List (Str × V)
  | [u, v] => [(g, u), (f, v)]
  | _ => []
structure Cl17 (P : Program) (w : World) (K : PySem.W.Frag) (mg : Str → Option Value) (M : Addr) (Cf : Nat → Addr) : Prop where
  gM : mg "MoveError" = some (.ref M)
  g : ∀ k < 17, mg (clsName k) = some (.ref (Cf k))
  xf : ∀ k < 17, XF K M (Cf k)
  gf : GF K M
  inj : ∀ i < 17, ∀ j < 17, Cf i = Cf j → i = j
  neM : ∀ i < 17, M ≠ Cf i
  one : ∀ k < 17, isTwo k = false → Mkr P w K mg (Cf k) 1 [] (fs1 (fl1 k)) ∧ Mkr P w K mg (Cf k) 1 [fl1 k] (fs1 (fl1 k)) ∧ PySem.W.findIn K (.ref (Cf k)) (fl1 k) = some none
  two : ∀ k < 17, isTwo k = true → Mkr P w K mg (Cf k) 2 [] (fs2 (flA k) (flB k)) ∧ Mkr P w K mg (Cf k) 2 [flB k, flA k] (fs2r (flA k) (flB k)) ∧ PySem.W.findIn K (.ref (Cf k)) (flA k) = some none ∧ PySem.W.findIn K (.ref (Cf k)) (flB k) = some none
section
variable {P : Program} {w : World} {K : PySem.W.Frag} {mg : Str → Option Value} {base : Heap} {M : Addr} {Cf : Nat → Addr}
theorem Cl17.kit (T : Cl17 P w K mg M Cf) {k j : Nat} (hk : k < 17) (hj : j < 17) : PySem.W.kitOne K (.ref (Cf k)) (.ref (Cf j)) = some (decide (j = k)) := by
  by_cases e : j = k
  · rw [decide_eq_true e, e]
    exact kit_same
  · rw [decide_eq_false e]
    exact kit_other (T.xf k hk) (T.xf j hj) (fun z => e (T.inj j hj k hk z.symm)) (T.neM j hj)
/-! ### _law_kinds -/
def flags (k : Nat) : List V := [.bl (decide (0 = k)), .bl (decide (1 = k)), .bl (decide (2 = k)), .bl (decide (3 = k)), .bl (decide (4 = k)), .bl (decide (5 = k)), .bl (decide (6 = k)), .bl (decide (7 = k)), .bl (decide (8 = k)), .bl (decide (9 = k)), .bl (decide (10 = k)), .bl (decide (11 = k)), .bl (decide (12 = k)), .bl (decide (13 = k)), .bl (decide (14 = k)), .bl (decide (15 = k)), .bl (decide (16 = k))]
def tIs (r : List V → Hp → VK → Prop) (Cf : Nat → Addr) (j : Nat) : TE := tCB r (tCons (tVar 0) (tCons (tC (.ref (Cf j))) tNil))
def tIs3 (r : List V → Hp → VK → Prop) (Cf : Nat → Addr) (i j k : Nat) : TE := tLst (tCons (tIs r Cf i) (tCons (tIs r Cf j) (tCons (tIs r Cf k) tNil)))
def tKinds (r : List V → Hp → VK → Prop) (Cf : Nat → Addr) : TS := tSeq (tAsg (tIs3 r Cf 0 1 2) (gName 1)) (tSeq (tAsg (tOp rCat (tVar 1) (tIs3 r Cf 3 4 5)) (gName 1)) (tSeq (tAsg (tOp rCat (tVar 1) (tIs3 r Cf 6 7 8)) (gName 1)) (tSeq (tAsg (tOp rCat (tVar 1) (tIs3 r Cf 9 10 11)) (gName 1))
  (tSeq (tAsg (tOp rCat (tVar 1) (tIs3 r Cf 12 13 14)) (gName 1)) (tRet (tOp rCat (tVar 1) (tLst (tCons (tIs r Cf 15) (tCons (tIs r Cf 16) tNil)))))))))
def nKinds : List Str := ["_law_e", "_law_found"]
theorem scKinds : FnScope nKinds ["_law_e"] (defScope sKinds) := ⟨rfl, rfl, rfl, by decide +kernel, rfl, by decide +kernel, by decide +kernel⟩
/-- the context of its body, in an except suite or not -/
abbrev cxG (P : Program) (w : World) (K : PySem.W.Frag) (mg : Str → Option Value) (base : Heap) (N : List Str) (qual : Str) (scope : Scope) (f : Addr) (cd : Value) (A : Around) (outer : List Env) (s : Shared) (H : Hp) (c : Bool) (pn : List (Addr × Obj)) (xe : Value → Shared → Prop) : Cx :=
  { cxOf CX0 P w K mg base N qual scope f cd A outer s H E0 with calm := c, pn := pn, xe := xe }
theorem ps_kinds (T : Cl17 P w K mg M Cf) (B : Blt mg) {r : List V → Hp → VK → Prop} {f : Addr} {cd : Value} {A : Around} {outer : List Env} {s : Shared} {H : Hp} {c : Bool} {pn : List (Addr × Obj)} {xe : Value → Shared → Prop}
    (hI : CallR (cxG P w K mg base nKinds "_law_kinds" (defScope sKinds) f cd A outer s H c pn xe) (.builtin "isinstance") r) : PSs (cxG P w K mg base nKinds "_law_kinds" (defScope sKinds) f cd A outer s H c pn xe) (defBody sKinds) (tKinds r Cf) :=
  pss_cons (ps_set (i := 1) scKinds.nd rfl (.inl rfl) (pe_lst (pa_cons (pe_callB hI (by rfl) B.isinst b_isinst (pa_cons (pv 0) (pa_cons (pe_glob (v := .ref (Cf 0)) (by rfl) (T.g 0 (by decide)) rfl) pa_nil)))
      (pa_cons (pe_callB hI (by rfl) B.isinst b_isinst (pa_cons (pv 0) (pa_cons (pe_glob (v := .ref (Cf 1)) (by rfl) (T.g 1 (by decide)) rfl) pa_nil))) (pa_cons (pe_callB hI (by rfl) B.isinst b_isinst (pa_cons (pv 0) (pa_cons (pe_glob (v := .ref (Cf 2)) (by rfl) (T.g 2 (by decide)) rfl) pa_nil))) pa_nil)))))
  (pss_cons (ps_set (i := 1) scKinds.nd rfl (.inl rfl) (pe_op op_cat (pv 1) (pe_lst (pa_cons (pe_callB hI (by rfl) B.isinst b_isinst (pa_cons (pv 0) (pa_cons (pe_glob (v := .ref (Cf 3)) (by rfl) (T.g 3 (by decide)) rfl) pa_nil)))
      (pa_cons (pe_callB hI (by rfl) B.isinst b_isinst (pa_cons (pv 0) (pa_cons (pe_glob (v := .ref (Cf 4)) (by rfl) (T.g 4 (by decide)) rfl) pa_nil))) (pa_cons (pe_callB hI (by rfl) B.isinst b_isinst (pa_cons (pv 0) (pa_cons (pe_glob (v := .ref (Cf 5)) (by rfl) (T.g 5 (by decide)) rfl) pa_nil))) pa_nil))))))
  (pss_cons (ps_set (i := 1) scKinds.nd rfl (.inl rfl) (pe_op op_cat (pv 1) (pe_lst (pa_cons (pe_callB hI (by rfl) B.isinst b_isinst (pa_cons (pv 0) (pa_cons (pe_glob (v := .ref (Cf 6)) (by rfl) (T.g 6 (by decide)) rfl) pa_nil)))
      (pa_cons (pe_callB hI (by rfl) B.isinst b_isinst (pa_cons (pv 0) (pa_cons (pe_glob (v := .ref (Cf 7)) (by rfl) (T.g 7 (by decide)) rfl) pa_nil))) (pa_cons (pe_callB hI (by rfl) B.isinst b_isinst (pa_cons (pv 0) (pa_cons (pe_glob (v := .ref (Cf 8)) (by rfl) (T.g 8 (by decide)) rfl) pa_nil))) pa_nil))))))
  (pss_cons (ps_set (i := 1) scKinds.nd rfl (.inl rfl) (pe_op op_cat (pv 1) (pe_lst (pa_cons (pe_callB hI (by rfl) B.isinst b_isinst (pa_cons (pv 0) (pa_cons (pe_glob (v := .ref (Cf 9)) (by rfl) (T.g 9 (by decide)) rfl) pa_nil)))
      (pa_cons (pe_callB hI (by rfl) B.isinst b_isinst (pa_cons (pv 0) (pa_cons (pe_glob (v := .ref (Cf 10)) (by rfl) (T.g 10 (by decide)) rfl) pa_nil))) (pa_cons (pe_callB hI (by rfl) B.isinst b_isinst (pa_cons (pv 0) (pa_cons (pe_glob (v := .ref (Cf 11)) (by rfl) (T.g 11 (by decide)) rfl) pa_nil))) pa_nil))))))
  (pss_cons (ps_set (i := 1) scKinds.nd rfl (.inl rfl) (pe_op op_cat (pv 1) (pe_lst (pa_cons (pe_callB hI (by rfl) B.isinst b_isinst (pa_cons (pv 0) (pa_cons (pe_glob (v := .ref (Cf 12)) (by rfl) (T.g 12 (by decide)) rfl) pa_nil)))
      (pa_cons (pe_callB hI (by rfl) B.isinst b_isinst (pa_cons (pv 0) (pa_cons (pe_glob (v := .ref (Cf 13)) (by rfl) (T.g 13 (by decide)) rfl) pa_nil))) (pa_cons (pe_callB hI (by rfl) B.isinst b_isinst (pa_cons (pv 0) (pa_cons (pe_glob (v := .ref (Cf 14)) (by rfl) (T.g 14 (by decide)) rfl) pa_nil))) pa_nil))))))
  (pss_one (ps_ret (pe_op op_cat (pv 1) (pe_lst (pa_cons (pe_callB hI (by rfl) B.isinst b_isinst (pa_cons (pv 0) (pa_cons (pe_glob (v := .ref (Cf 15)) (by rfl) (T.g 15 (by decide)) rfl) pa_nil)))
      (pa_cons (pe_callB hI (by rfl) B.isinst b_isinst (pa_cons (pv 0) (pa_cons (pe_glob (v := .ref (Cf 16)) (by rfl) (T.g 16 (by decide)) rfl) pa_nil))) pa_nil))))))))))
theorem is_arg {r : List V → Hp → VK → Prop} {a : Addr} {k j : Nat} {H : Hp} {Q : VK} {y : Option V} (hr : ∀ j < 17, ∀ Q, Q (.bl (decide (j = k))) H → r [.ref a, .ref (Cf j)] H Q) (hj : j < 17) (q : Q (.bl (decide (j = k))) H) : tIs r Cf j [some (.ref a), y] H Q := ⟨_, rfl, hr j hj Q q⟩
theorem is_three {r : List V → Hp → VK → Prop} {a : Addr} {k i j l : Nat} {H : Hp} {Q : VK} {y : Option V} (hr : ∀ j < 17, ∀ Q, Q (.bl (decide (j = k))) H → r [.ref a, .ref (Cf j)] H Q) (hi : i < 17) (hj : j < 17) (hl : l < 17)
    (q : ∀ p, H p = none → Q (.ref p) (upd H p (.lst [.bl (decide (i = k)), .bl (decide (j = k)), .bl (decide (l = k))]))) : tIs3 r Cf i j l [some (.ref a), y] H Q :=
  is_arg (k := k) hr hi (is_arg (k := k) hr hj (is_arg (k := k) hr hl ⟨by show 3 ≤ sizeLine; decide, q⟩))
theorem is_more {r : List V → Hp → VK → Prop} {a p : Addr} {k i j l : Nat} {H0 H : Hp} {Q : VK} {xs : List V} (hr : ∀ H, Same H0 H → ∀ j < 17, ∀ Q, Q (.bl (decide (j = k))) H → r [.ref a, .ref (Cf j)] H Q) (s : Same H0 H) (e : H p = some (.lst xs)) (hz : xs.length ≤ 100) (hi : i < 17) (hj : j < 17) (hl : l < 17)
    (q : ∀ t H', Same H0 H' → H0 t = none → H' t = some (.lst (xs ++ [.bl (decide (i = k)), .bl (decide (j = k)), .bl (decide (l = k))])) → Q (.ref t) H') : tOp rCat (tVar 1) (tIs3 r Cf i j l) [some (.ref a), some (.ref p)] H Q := by
  refine ⟨_, rfl, is_three (k := k) (hr H s) hi hj hl fun t nt => ?_⟩
  have e2 := same_new nt (.lst [.bl (decide (i = k)), .bl (decide (j = k)), .bl (decide (l = k))]) _ _ e
  refine ⟨p, t, xs, _, rfl, rfl, e2, upd_same, ?_, fun u nu => q u _ ((s.trans (same_new nt _)).trans (same_new nu _)) ((s.trans (same_new nt _)).free nu) upd_same⟩
  show xs.length + 3 ≤ sizeLine
  exact Nat.le_of_lt (small1000 (by omega))
theorem as_three {r : List V → Hp → VK → Prop} {a : Addr} {k i j l : Nat} {H : Hp} {D : Ends} {u : TS} {y : Option V} (hr : ∀ j < 17, ∀ Q, Q (.bl (decide (j = k))) H → r [.ref a, .ref (Cf j)] H Q) (hi : i < 17) (hj : j < 17) (hl : l < 17)
    (q : ∀ p, H p = none → u D [some (.ref a), some (.ref p)] (upd H p (.lst [.bl (decide (i = k)), .bl (decide (j = k)), .bl (decide (l = k))]))) : tSeq (tAsg (tIs3 r Cf i j l) (gName 1)) u D [some (.ref a), y] H :=
  is_three (k := k) (Q := fun x H1 => gName 1 x [some (.ref a), y] H1 (u D)) hr hi hj hl q
theorem as_more {r : List V → Hp → VK → Prop} {a p : Addr} {k i j l : Nat} {H0 H : Hp} {D : Ends} {u : TS} {xs : List V} (hr : ∀ H, Same H0 H → ∀ j < 17, ∀ Q, Q (.bl (decide (j = k))) H → r [.ref a, .ref (Cf j)] H Q) (s : Same H0 H) (e : H p = some (.lst xs)) (hz : xs.length ≤ 100) (hi : i < 17) (hj : j < 17) (hl : l < 17)
    (q : ∀ t H', Same H0 H' → H0 t = none → H' t = some (.lst (xs ++ [.bl (decide (i = k)), .bl (decide (j = k)), .bl (decide (l = k))])) → u D [some (.ref a), some (.ref t)] H') : tSeq (tAsg (tOp rCat (tVar 1) (tIs3 r Cf i j l)) (gName 1)) u D [some (.ref a), some (.ref p)] H :=
  is_more (Q := fun x H1 => gName 1 x [some (.ref a), some (.ref p)] H1 (u D)) hr s e hz hi hj hl q
theorem pure_kinds {r : List V → Hp → VK → Prop} {a : Addr} {k : Nat} {H : Hp} {D : Ends} (hr : ∀ H', Same H H' → ∀ j < 17, ∀ Q, Q (.bl (decide (j = k))) H' → r [.ref a, .ref (Cf j)] H' Q)
    (q : ∀ p H', Same H H' → H p = none → H' p = some (.lst (flags k)) → D.rt (.ref p) H') : tKinds r Cf D [some (.ref a), none] H := by
  unfold tKinds
  refine as_three (k := k) (hr H (Same.refl H)) (by decide) (by decide) (by decide) fun p0 n0 => ?_
  refine as_more hr (same_new n0 _) upd_same (by show 3 ≤ 100; decide) (by decide) (by decide) (by decide) fun p1 H1 s1 n1 e1 => ?_
  refine as_more hr s1 e1 (by show 6 ≤ 100; decide) (by decide) (by decide) (by decide) fun p2 H2 s2 n2 e2 => ?_
  refine as_more hr s2 e2 (by show 9 ≤ 100; decide) (by decide) (by decide) (by decide) fun p3 H3 s3 n3 e3 => ?_
  refine as_more hr s3 e3 (by show 12 ≤ 100; decide) (by decide) (by decide) (by decide) fun p4 H4 s4 n4 e4 => ?_
  refine ⟨_, rfl, is_arg (k := k) (hr H4 s4) (by decide) (is_arg (k := k) (hr H4 s4) (by decide) ⟨by show 2 ≤ sizeLine; decide, fun t nt => ?_⟩)⟩
  have e5 := same_new nt (.lst [.bl (decide (15 = k)), .bl (decide (16 = k))]) _ _ e4
  refine ⟨p4, t, _, _, rfl, rfl, e5, upd_same, by show 17 ≤ sizeLine; decide, fun u nu => q u _ ((s4.trans (same_new nt _)).trans (same_new nu _)) ((s4.trans (same_new nt _)).free nu) upd_same⟩
/-- called with a held exception -/
def spKinds (Cf : Nat → Addr) : Sp := fun vs H Q _ => ∃ (a d : Addr) (fs : List (Str × V)) (k : Nat), vs = [.ref a] ∧ k < 17 ∧ H a = some (exq a (Cf k) d) ∧ H d = some (.xd fs) ∧ ∀ p H', Same H H' → H p = none → H' p = some (.lst (flags k)) → Q (.ref p) H'
theorem ok_kinds (T : Cl17 P w K mg M Cf) (B : Blt mg) {f : Addr} {fd : FuncData} (F : Fun K "_law_kinds" "_law_kinds" sKinds f fd) : FnOk P w K mg base CX0 1 f fd ["_law_e"] (spKinds Cf) := by
  refine F.ok scKinds (fun vs H Q E h => ?_) (fun cdv A outer s H vs Q E hr h => ?_)
  · obtain ⟨_, _, _, _, rfl, _⟩ := h
    rfl
  obtain ⟨a, d, fs, k, rfl, hk, ea, ed, q⟩ := h
  refine ⟨tKinds (rIsX K M) Cf, ps_kinds T B (call_isX T.gf), pure_kinds (k := k) (fun H' s j hj Q' q' => ?_) q⟩
  exact ⟨a, Cf k, d, fs, _, _, _, rfl, s _ _ ea, s _ _ ed, T.xf k hk, .own (Cf j), T.kit hk hj, q'⟩
/-- .. with the caught one -/
def spKindsP (Cf : Nat → Addr) (a : Addr) (oe : Obj) : Sp := fun vs H Q _ => ∃ (d : Addr) (fs : List (Str × V)) (k : Nat), vs = [.ref a] ∧ k < 17 ∧ oe.cls = .ref (Cf k) ∧ oe.dict = some d ∧ (∃ us, oe.data = .fields us) ∧ H d = some (.xd fs) ∧ ∀ p H', Same H H' → H p = none → H' p = some (.lst (flags k)) → Q (.ref p) H'
theorem ok_kindsP (T : Cl17 P w K mg M Cf) (B : Blt mg) {f : Addr} {fd : FuncData} (F : Fun K "_law_kinds" "_law_kinds" sKinds f fd) : FnP P w K mg base 1 f fd ["_law_e"] (spKindsP Cf) := by
  refine Fun.okP F scKinds (fun a oe vs H Q E h => ?_) (fun cdv A outer s H vs Q a oe hr h => ?_)
  · obtain ⟨_, _, _, rfl, _⟩ := h
    rfl
  obtain ⟨d, fs, k, rfl, hk, hc, hd, hf, ed, q⟩ := h
  refine ⟨tKinds (rIsP K a (Cf k) d) Cf, ps_kinds T B (call_isP (X := cxG P w K mg base nKinds "_law_kinds" (defScope sKinds) f cdv A outer s H false [(a, oe)] _) (oe := oe) T.gf (T.xf k hk) (List.mem_singleton.mpr rfl) hc hd hf), pure_kinds (k := k) (fun H' s j hj Q' q' => ?_) q⟩
  exact ⟨fs, _, _, _, rfl, s _ _ ed, .own (Cf j), T.kit hk hj, q'⟩
end
end Mv
/-! _law_made, _law_named, _law_kept. -/
namespace Mv
open PySem PySem.Spec PyProof.Rows L2 MvX
def argOf (k : Nat) (v t n : V) : V := if k = 9 then n else if 12 ≤ k ∧ k ≤ 15 then t else v
/-- the fields of the k-th error -/
def fldsOf (k : Nat) (v t n : V) : List (Str × V) := if isTwo k = true then [(flB k, n), (flA k, t)] else [(fl1 k, argOf k v t n)]
/-- the k-th error stands at a -/
def Ex (Cf : Nat → Addr) (v t n : V) (H : Hp) (k : Nat) (a : Addr) : Prop := ∃ d, H a = some (exq a (Cf k) d) ∧ H d = some (.xd (fldsOf k v t n))
theorem Ex.same {Cf : Nat → Addr} {v t n : V} {H H' : Hp} {k : Nat} {a : Addr} (s : Same H H') (h : Ex Cf v t n H k a) : Ex Cf v t n H' k a := by
  obtain ⟨d, h1, h2⟩ := h
  exact ⟨d, s _ _ h1, s _ _ h2⟩
abbrev k17 : List Nat := [0, 1, 2, 3, 4, 5, 6, 7, 8, 9, 10, 11, 12, 13, 14, 15, 16]
/-- the list of all seventeen stands at p -/
def Errs (Cf : Nat → Addr) (v t n : V) (H : Hp) (p : Addr) : Prop := ∃ es : List Addr, H p = some (.lst (es.map V.ref)) ∧ Paired (Ex Cf v t n H) k17 es
def Gives (Cf : Nat → Addr) (v t n : V) (te : TE) (σ : St) (k : Nat) : Prop := ∀ H Q, (∀ a H', Same H H' → Ex Cf v t n H' k a → Q (.ref a) H') → te σ H Q
def GivesL (Cf : Nat → Addr) (v t n : V) (ta : TA) (σ : St) (ks : List Nat) : Prop := ∀ H Q, (∀ (es : List Addr) H', Same H H' → Paired (Ex Cf v t n H') ks es → Q (es.map V.ref) H') → ta σ H Q
section
variable {Cf : Nat → Addr} {v t n : V} {y : Option V} {σ : St} {k : Nat} {ks : List Nat} {te : TE} {ta : TA}
theorem gl_nil : GivesL Cf v t n tNil σ [] := fun H Q h => h [] H (Same.refl H) .nil
theorem gl_cons (h1 : Gives Cf v t n te σ k) (h2 : GivesL Cf v t n ta σ ks) : GivesL Cf v t n (tCons te ta) σ (k :: ks) := fun H Q h =>
  h1 H _ fun a H1 s1 x1 => h2 H1 _ fun es H2 s2 x2 => h (a :: es) H2 (s1.trans s2) (.cons (x1.same s2) x2)
theorem new2 {H : Hp} {a d : Addr} {o u : HO} (na : H a = none) (nd : H d = none) (ne : d ≠ a) : Same H (upd (upd H d o) a u) ∧ (upd (upd H d o) a u) d = some o := by
  refine ⟨(same_new nd o).trans (same_new (by rw [upd_ne (Ne.symm ne)]; exact na) u), ?_⟩
  rw [upd_ne ne]
  exact upd_same
theorem give1 (k i : Nat) {x : V} (hi : ([some v, some t, some n, y] : St)[i]? = some (some x)) (hf : fldsOf k v t n = fs1 (fl1 k) [x]) : Gives Cf v t n (tNew (Cf k) 1 (fs1 (fl1 k)) (tCons (tVar i) tNil)) [some v, some t, some n, y] k := fun H Q h => by
  refine ⟨x, hi, rfl, fun a d na nd ne => ?_⟩
  obtain ⟨s, e⟩ := new2 (o := .xd (fs1 (fl1 k) [x])) (u := exq a (Cf k) d) na nd ne
  exact h a _ s ⟨d, upd_same, by rw [hf]; exact e⟩
theorem give2 (k : Nat) (hf : fldsOf k v t n = fs2 (flA k) (flB k) [t, n]) : Gives Cf v t n (tNew (Cf k) 2 (fs2 (flA k) (flB k)) (tCons (tVar 1) (tCons (tVar 2) tNil))) [some v, some t, some n, y] k := fun H Q h => by
  refine ⟨t, rfl, n, rfl, rfl, fun a d na nd ne => ?_⟩
  obtain ⟨s, e⟩ := new2 (o := .xd (fs2 (flA k) (flB k) [t, n])) (u := exq a (Cf k) d) na nd ne
  exact h a _ s ⟨d, upd_same, by rw [hf]; exact e⟩
theorem give2r (k : Nat) (hf : fldsOf k v t n = fs2r (flA k) (flB k) [n, t]) : Gives Cf v t n (tNew (Cf k) 2 (fs2r (flA k) (flB k)) (tCons (tVar 2) (tCons (tVar 1) tNil))) [some v, some t, some n, y] k := fun H Q h => by
  refine ⟨n, rfl, t, rfl, rfl, fun a d na nd ne => ?_⟩
  obtain ⟨s, e⟩ := new2 (o := .xd (fs2r (flA k) (flB k) [n, t])) (u := exq a (Cf k) d) na nd ne
  exact h a _ s ⟨d, upd_same, by rw [hf]; exact e⟩
theorem paired_len {α β : Type} {F : α → β → Prop} : ∀ {l : List α} {r : List β}, Paired F l r → l.length = r.length
  | _, _, .nil => rfl
  | _, _, .cons _ h => congrArg Nat.succ (paired_len h)
theorem paired_app {α β : Type} {F : α → β → Prop} : ∀ {l l' : List α} {r r' : List β}, Paired F l r → Paired F l' r' → Paired F (l ++ l') (r ++ r')
  | _, _, _, _, .nil, h => h
  | _, _, _, _, .cons a h, h' => .cons a (paired_app h h')
theorem paired_get {α β : Type} {F : α → β → Prop} : ∀ {l : List α} {r : List β} {i : Nat} {a : α}, Paired F l r → l[i]? = some a → ∃ b, r[i]? = some b ∧ F a b
  | _, _, _, _, .nil, h => by simp at h
  | _, _, 0, _, .cons z _, h => by
    simp at h
    subst h
    exact ⟨_, rfl, z⟩
  | _, _, i + 1, _, .cons _ t, h => by
    obtain ⟨b, h1, h2⟩ := paired_get (i := i) t (by simpa using h)
    exact ⟨b, by simpa using h1, h2⟩
theorem gl_lst {D : Ends} {u : TS} {H : Hp} {y0 : Option V} (hg : GivesL Cf v t n ta [some v, some t, some n, y0] ks) (hz : ks.length ≤ 100)
    (q : ∀ p es H', Same H H' → H p = none → H' p = some (.lst (es.map V.ref)) → Paired (Ex Cf v t n H') ks es → u D [some v, some t, some n, some (.ref p)] H') : tSeq (tAsg (tLst ta) (gName 3)) u D [some v, some t, some n, y0] H := by
  refine hg H _ fun es H1 s1 x1 => ⟨?_, fun p np => ?_⟩
  · rw [List.length_map, ← paired_len x1]
    exact Nat.le_of_lt (small1000 (by omega))
  · exact q p es _ (s1.trans (same_new np _)) (s1.free np) upd_same (L2.Paired.mapP x1 fun _ _ z => z.same (same_new np _))
theorem run_cat {H : Hp} {Q : VK} {p : Addr} {es : List Addr} {ks' : List Nat} (hg : GivesL Cf v t n ta [some v, some t, some n, some (.ref p)] ks) (hz : ks.length + ks'.length ≤ 100) (e : H p = some (.lst (es.map V.ref))) (r : Paired (Ex Cf v t n H) ks' es)
    (q : ∀ p' es' H', Same H H' → H p' = none → H' p' = some (.lst (es'.map V.ref)) → Paired (Ex Cf v t n H') (ks' ++ ks) es' → Q (.ref p') H') : tOp rCat (tVar 3) (tLst ta) [some v, some t, some n, some (.ref p)] H Q := by
  refine ⟨_, rfl, hg H _ fun es1 H1 s1 x1 => ⟨?_, fun l nl => ?_⟩⟩
  · rw [List.length_map, ← paired_len x1]
    exact Nat.le_of_lt (small1000 (by omega))
  · have s2 := s1.trans (same_new nl (.lst (es1.map V.ref)))
    refine ⟨p, l, _, _, rfl, rfl, s2 _ _ e, upd_same, ?_, fun u nu => ?_⟩
    · rw [List.length_map, List.length_map, ← paired_len x1, ← paired_len r]
      exact Nat.le_of_lt (small1000 (by omega))
    · have s3 := s2.trans (same_new nu (.lst (es.map V.ref ++ es1.map V.ref)))
      refine q u (es ++ es1) _ s3 (s2.free nu) (by rw [upd_same, List.map_append]) (paired_app (L2.Paired.mapP r fun _ _ z => z.same s3) (L2.Paired.mapP x1 fun _ _ z => (z.same (same_new nl _)).same (same_new nu _)))
theorem gl_cat {D : Ends} {u : TS} {H : Hp} {p : Addr} {es : List Addr} {ks' : List Nat} (hg : GivesL Cf v t n ta [some v, some t, some n, some (.ref p)] ks) (hz : ks.length + ks'.length ≤ 100) (e : H p = some (.lst (es.map V.ref))) (r : Paired (Ex Cf v t n H) ks' es)
    (q : ∀ p' es' H', Same H H' → H p' = none → H' p' = some (.lst (es'.map V.ref)) → Paired (Ex Cf v t n H') (ks' ++ ks) es' → u D [some v, some t, some n, some (.ref p')] H') : tSeq (tAsg (tOp rCat (tVar 3) (tLst ta)) (gName 3)) u D [some v, some t, some n, some (.ref p)] H :=
  run_cat (Q := fun x H1 => gName 3 x [some v, some t, some n, some (.ref p)] H1 (u D)) hg hz e r q
theorem gl_ret {D : Ends} {H : Hp} {p : Addr} {es : List Addr} {ks' : List Nat} (hg : GivesL Cf v t n ta [some v, some t, some n, some (.ref p)] ks) (hz : ks.length + ks'.length ≤ 100) (e : H p = some (.lst (es.map V.ref))) (r : Paired (Ex Cf v t n H) ks' es)
    (q : ∀ p' es' H', Same H H' → H p' = none → H' p' = some (.lst (es'.map V.ref)) → Paired (Ex Cf v t n H') (ks' ++ ks) es' → D.rt (.ref p') H') : tRet (tOp rCat (tVar 3) (tLst ta)) D [some v, some t, some n, some (.ref p)] H :=
  run_cat (Q := D.rt) hg hz e r q
end
section
variable {P : Program} {w : World} {K : PySem.W.Frag} {mg : Str → Option Value} {base : Heap} {M : Addr} {Cf : Nat → Addr}
def spMade (Cf : Nat → Addr) : Sp := fun vs H Q _ => ∃ v t n : V, vs = [v, t, n] ∧ ∀ p H', Same H H' → H p = none → Errs Cf v t n H' p → Q (.ref p) H'
theorem scMade : FnScope ["_law_one", "_law_text", "_law_number", "_law_found"] ["_law_one", "_law_text", "_law_number"] (defScope sMade) := ⟨rfl, rfl, rfl, by decide +kernel, rfl, by decide +kernel, by decide +kernel⟩
theorem scNamed : FnScope ["_law_one", "_law_text", "_law_number", "_law_found"] ["_law_one", "_law_text", "_law_number"] (defScope sNamed) := ⟨rfl, rfl, rfl, by decide +kernel, rfl, by decide +kernel, by decide +kernel⟩
theorem ok_made (T : Cl17 P w K mg M Cf) {f : Addr} {fd : FuncData} (F : Fun K "_law_made" "_law_made" sMade f fd) : FnOk P w K mg base CX0 1 f fd ["_law_one", "_law_text", "_law_number"] (spMade Cf) := by
  refine F.ok scMade (fun vs H Q E h => ?_) (fun cdv A outer s H vs Q E hr h => ?_)
  · obtain ⟨_, _, _, rfl, _⟩ := h
    rfl
  obtain ⟨v, t, n, rfl, q⟩ := h
  have hd : (A.deeper (envOfC "_law_made" (defScope sMade) s.heap.objs.size f cdv)).depth + 1 < recursionLimit := by
    have z := hr.dp
    omega
  refine ⟨_, pss_cons (ps_set (i := 3) scMade.nd rfl (.inl rfl) (pe_lst (pa_cons (pe_newP (T.one 0 (by decide) rfl).1 hd (by rfl) (T.g 0 (by decide)) (pa_cons (pv 0) pa_nil)) (pa_cons (pe_newP (T.two 1 (by decide) rfl).1 hd (by rfl) (T.g 1 (by decide)) (pa_cons (pv 1) (pa_cons (pv 2) pa_nil))) (pa_cons (pe_newP (T.one 2 (by decide) rfl).1 hd (by rfl) (T.g 2 (by decide)) (pa_cons (pv 0) pa_nil)) (pa_cons (pe_newP (T.one 3 (by decide) rfl).1 hd (by rfl) (T.g 3 (by decide)) (pa_cons (pv 0) pa_nil)) (pa_cons (pe_newP (T.one 4 (by decide) rfl).1 hd (by rfl) (T.g 4 (by decide)) (pa_cons (pv 0) pa_nil)) pa_nil)))))))
    (pss_cons (ps_set (i := 3) scMade.nd rfl (.inl rfl) (pe_op op_cat (pv 3) (pe_lst (pa_cons (pe_newP (T.one 5 (by decide) rfl).1 hd (by rfl) (T.g 5 (by decide)) (pa_cons (pv 0) pa_nil)) (pa_cons (pe_newP (T.one 6 (by decide) rfl).1 hd (by rfl) (T.g 6 (by decide)) (pa_cons (pv 0) pa_nil)) (pa_cons (pe_newP (T.one 7 (by decide) rfl).1 hd (by rfl) (T.g 7 (by decide)) (pa_cons (pv 0) pa_nil)) (pa_cons (pe_newP (T.one 8 (by decide) rfl).1 hd (by rfl) (T.g 8 (by decide)) (pa_cons (pv 0) pa_nil)) (pa_cons (pe_newP (T.one 9 (by decide) rfl).1 hd (by rfl) (T.g 9 (by decide)) (pa_cons (pv 2) pa_nil)) pa_nil))))))))
    (pss_cons (ps_set (i := 3) scMade.nd rfl (.inl rfl) (pe_op op_cat (pv 3) (pe_lst (pa_cons (pe_newP (T.two 10 (by decide) rfl).1 hd (by rfl) (T.g 10 (by decide)) (pa_cons (pv 1) (pa_cons (pv 2) pa_nil))) (pa_cons (pe_newP (T.two 11 (by decide) rfl).1 hd (by rfl) (T.g 11 (by decide)) (pa_cons (pv 1) (pa_cons (pv 2) pa_nil))) (pa_cons (pe_newP (T.one 12 (by decide) rfl).1 hd (by rfl) (T.g 12 (by decide)) (pa_cons (pv 1) pa_nil)) (pa_cons (pe_newP (T.one 13 (by decide) rfl).1 hd (by rfl) (T.g 13 (by decide)) (pa_cons (pv 1) pa_nil)) pa_nil)))))))
    (pss_one (ps_ret (pe_op op_cat (pv 3) (pe_lst (pa_cons (pe_newP (T.one 14 (by decide) rfl).1 hd (by rfl) (T.g 14 (by decide)) (pa_cons (pv 1) pa_nil)) (pa_cons (pe_newP (T.one 15 (by decide) rfl).1 hd (by rfl) (T.g 15 (by decide)) (pa_cons (pv 1) pa_nil)) (pa_cons (pe_newP (T.one 16 (by decide) rfl).1 hd (by rfl) (T.g 16 (by decide)) (pa_cons (pv 0) pa_nil)) pa_nil))))))))), ?_⟩
  refine gl_lst (gl_cons (give1 0 0 rfl rfl) (gl_cons (give2 1 rfl) (gl_cons (give1 2 0 rfl rfl) (gl_cons (give1 3 0 rfl rfl) (gl_cons (give1 4 0 rfl rfl) gl_nil))))) (by decide) fun p0 es0 H0 s0 n0 e0 r0 => ?_
  refine gl_cat (gl_cons (give1 5 0 rfl rfl) (gl_cons (give1 6 0 rfl rfl) (gl_cons (give1 7 0 rfl rfl) (gl_cons (give1 8 0 rfl rfl) (gl_cons (give1 9 2 rfl rfl) gl_nil))))) (by decide) e0 r0 fun p1 es1 H1 s1 n1 e1 r1 => ?_
  refine gl_cat (gl_cons (give2 10 rfl) (gl_cons (give2 11 rfl) (gl_cons (give1 12 1 rfl rfl) (gl_cons (give1 13 1 rfl rfl) gl_nil)))) (by decide) e1 r1 fun p2 es2 H2 s2 n2 e2 r2 => ?_
  refine gl_ret (gl_cons (give1 14 1 rfl rfl) (gl_cons (give1 15 1 rfl rfl) (gl_cons (give1 16 0 rfl rfl) gl_nil))) (by decide) e2 r2 fun p3 es3 H3 s3 n3 e3 r3 => ?_
  exact q p3 H3 (((s0.trans s1).trans s2).trans s3) (((s0.trans s1).trans s2).free n3) ⟨es3, e3, r3⟩
theorem ok_named (T : Cl17 P w K mg M Cf) {f : Addr} {fd : FuncData} (F : Fun K "_law_named" "_law_named" sNamed f fd) : FnOk P w K mg base CX0 1 f fd ["_law_one", "_law_text", "_law_number"] (spMade Cf) := by
  refine F.ok scNamed (fun vs H Q E h => ?_) (fun cdv A outer s H vs Q E hr h => ?_)
  · obtain ⟨_, _, _, rfl, _⟩ := h
    rfl
  obtain ⟨v, t, n, rfl, q⟩ := h
  have hd : (A.deeper (envOfC "_law_named" (defScope sNamed) s.heap.objs.size f cdv)).depth + 1 < recursionLimit := by
    have z := hr.dp
    omega
  refine ⟨_, pss_cons (ps_set (i := 3) scNamed.nd rfl (.inl rfl) (pe_lst (pa_cons (pe_newK (T.one 0 (by decide) rfl).2.1 (by decide) hd (by rfl) (T.g 0 (by decide)) (pk_cons (pv 0) pk_nil)) (pa_cons (pe_newK (T.two 1 (by decide) rfl).2.1 (by decide) hd (by rfl) (T.g 1 (by decide)) (pk_cons (pv 2) (pk_cons (pv 1) pk_nil))) (pa_cons (pe_newK (T.one 2 (by decide) rfl).2.1 (by decide) hd (by rfl) (T.g 2 (by decide)) (pk_cons (pv 0) pk_nil)) pa_nil)))))
    (pss_cons (ps_set (i := 3) scNamed.nd rfl (.inl rfl) (pe_op op_cat (pv 3) (pe_lst (pa_cons (pe_newK (T.one 3 (by decide) rfl).2.1 (by decide) hd (by rfl) (T.g 3 (by decide)) (pk_cons (pv 0) pk_nil)) (pa_cons (pe_newK (T.one 4 (by decide) rfl).2.1 (by decide) hd (by rfl) (T.g 4 (by decide)) (pk_cons (pv 0) pk_nil)) (pa_cons (pe_newK (T.one 5 (by decide) rfl).2.1 (by decide) hd (by rfl) (T.g 5 (by decide)) (pk_cons (pv 0) pk_nil)) (pa_cons (pe_newK (T.one 6 (by decide) rfl).2.1 (by decide) hd (by rfl) (T.g 6 (by decide)) (pk_cons (pv 0) pk_nil)) pa_nil)))))))
    (pss_cons (ps_set (i := 3) scNamed.nd rfl (.inl rfl) (pe_op op_cat (pv 3) (pe_lst (pa_cons (pe_newK (T.one 7 (by decide) rfl).2.1 (by decide) hd (by rfl) (T.g 7 (by decide)) (pk_cons (pv 0) pk_nil)) (pa_cons (pe_newK (T.one 8 (by decide) rfl).2.1 (by decide) hd (by rfl) (T.g 8 (by decide)) (pk_cons (pv 0) pk_nil)) (pa_cons (pe_newK (T.one 9 (by decide) rfl).2.1 (by decide) hd (by rfl) (T.g 9 (by decide)) (pk_cons (pv 2) pk_nil)) pa_nil))))))
    (pss_cons (ps_set (i := 3) scNamed.nd rfl (.inl rfl) (pe_op op_cat (pv 3) (pe_lst (pa_cons (pe_newK (T.two 10 (by decide) rfl).2.1 (by decide) hd (by rfl) (T.g 10 (by decide)) (pk_cons (pv 2) (pk_cons (pv 1) pk_nil))) (pa_cons (pe_newK (T.two 11 (by decide) rfl).2.1 (by decide) hd (by rfl) (T.g 11 (by decide)) (pk_cons (pv 2) (pk_cons (pv 1) pk_nil))) (pa_cons (pe_newK (T.one 12 (by decide) rfl).2.1 (by decide) hd (by rfl) (T.g 12 (by decide)) (pk_cons (pv 1) pk_nil)) pa_nil))))))
    (pss_one (ps_ret (pe_op op_cat (pv 3) (pe_lst (pa_cons (pe_newK (T.one 13 (by decide) rfl).2.1 (by decide) hd (by rfl) (T.g 13 (by decide)) (pk_cons (pv 1) pk_nil)) (pa_cons (pe_newK (T.one 14 (by decide) rfl).2.1 (by decide) hd (by rfl) (T.g 14 (by decide)) (pk_cons (pv 1) pk_nil)) (pa_cons (pe_newK (T.one 15 (by decide) rfl).2.1 (by decide) hd (by rfl) (T.g 15 (by decide)) (pk_cons (pv 1) pk_nil)) (pa_cons (pe_newK (T.one 16 (by decide) rfl).2.1 (by decide) hd (by rfl) (T.g 16 (by decide)) (pk_cons (pv 0) pk_nil)) pa_nil))))))))))), ?_⟩
  refine gl_lst (gl_cons (give1 0 0 rfl rfl) (gl_cons (give2r 1 rfl) (gl_cons (give1 2 0 rfl rfl) gl_nil))) (by decide) fun p0 es0 H0 s0 n0 e0 r0 => ?_
  refine gl_cat (gl_cons (give1 3 0 rfl rfl) (gl_cons (give1 4 0 rfl rfl) (gl_cons (give1 5 0 rfl rfl) (gl_cons (give1 6 0 rfl rfl) gl_nil)))) (by decide) e0 r0 fun p1 es1 H1 s1 n1 e1 r1 => ?_
  refine gl_cat (gl_cons (give1 7 0 rfl rfl) (gl_cons (give1 8 0 rfl rfl) (gl_cons (give1 9 2 rfl rfl) gl_nil))) (by decide) e1 r1 fun p2 es2 H2 s2 n2 e2 r2 => ?_
  refine gl_cat (gl_cons (give2r 10 rfl) (gl_cons (give2r 11 rfl) (gl_cons (give1 12 1 rfl rfl) gl_nil))) (by decide) e2 r2 fun p3 es3 H3 s3 n3 e3 r3 => ?_
  refine gl_ret (gl_cons (give1 13 1 rfl rfl) (gl_cons (give1 14 1 rfl rfl) (gl_cons (give1 15 1 rfl rfl) (gl_cons (give1 16 0 rfl rfl) gl_nil)))) (by decide) e3 r3 fun p4 es4 H4 s4 n4 e4 r4 => ?_
  exact q p4 H4 ((((s0.trans s1).trans s2).trans s3).trans s4) ((((s0.trans s1).trans s2).trans s3).free n4) ⟨es4, e4, r4⟩
end
end Mv
/-! _law_kept, _law_raise. -/
namespace Mv
open PySem PySem.Spec PyProof.Rows L2 MvX
section
variable {P : Program} {w : World} {K : PySem.W.Frag} {mg : Str → Option Value} {base : Heap} {M : Addr} {Cf : Nat → Addr}
/-- e[k].f -/
theorem at_arg (T : Cl17 P w K mg M Cf) {v t n x : V} {H0 H : Hp} {p : Addr} (E : Errs Cf v t n H0 p) (s : Same H0 H) {Q : VK} {y1 y2 : Option V} {f : Str} {i : Int} (k : Nat) (hk : k < 17) (hi : i = (k : Int)) (h17 : k17[k]? = some k)
    (no : PySem.W.findIn K (.ref (Cf k)) f = some none) (hl : (fldsOf k v t n).lookup f = some x) (q : Q x H) : tAt K M f (tOp (rIxL K) (tVar 0) (tC (.int i))) [some (.ref p), y1, y2] H Q := by
  obtain ⟨es, ep, pr⟩ := E
  obtain ⟨a, ha, d, e1, e2⟩ := paired_get pr h17
  have hat : atI (es.map V.ref) i = some (.ref a) := at_of hi (by rw [List.getElem?_map, ha]; rfl)
  exact ⟨_, rfl, p, _, i, .ref a, rfl, rfl, SqL.of (s _ _ ep), hat, a, Cf k, d, _, x, rfl, s _ _ e1, s _ _ e2, T.xf k hk, no, hl, q⟩
def spKept (Cf : Nat → Addr) : Sp := fun vs H Q _ => ∃ (p : Addr) (v t n : V), vs = [.ref p] ∧ Errs Cf v t n H p ∧ ∀ (r a b c : Addr) H', Same H H' → H' r = some (.lst [.ref a, .ref b, .ref c]) → H' a = some (.lst [v, v, v, v, v, v, v, v, v]) → H' b = some (.lst [t, t, t, t, t, t, t]) → H' c = some (.lst [n, n, n, n]) → Q (.ref r) H'
theorem scKept : FnScope ["_law_e", "_law_values", "_law_texts"] ["_law_e"] (defScope sKept) := ⟨rfl, rfl, rfl, by decide +kernel, rfl, by decide +kernel, by decide +kernel⟩
theorem ok_kept (T : Cl17 P w K mg M Cf) {f : Addr} {fd : FuncData} (F : Fun K "_law_kept" "_law_kept" sKept f fd) : FnOk P w K mg base CX0 1 f fd ["_law_e"] (spKept Cf) := by
  refine F.ok scKept (fun vs H Q E h => ?_) (fun cdv A outer s H vs Q E0 hr h => ?_)
  · obtain ⟨_, _, _, _, rfl, _⟩ := h
    rfl
  obtain ⟨p, v, t, n, rfl, E, q⟩ := h
  refine ⟨_, pss_cons (ps_set (i := 1) scKept.nd rfl (.inl rfl) (pe_lst (pa_cons (pe_at (M := M) (pe_ix ix_list (pv 0) pe_int (fun _ _ => rfl))) (pa_cons (pe_at (M := M) (pe_ix ix_list (pv 0) pe_int (fun _ _ => rfl))) (pa_cons (pe_at (M := M) (pe_ix ix_list (pv 0) pe_int (fun _ _ => rfl))) (pa_cons (pe_at (M := M) (pe_ix ix_list (pv 0) pe_int (fun _ _ => rfl))) (pa_cons (pe_at (M := M) (pe_ix ix_list (pv 0) pe_int (fun _ _ => rfl))) (pa_cons (pe_at (M := M) (pe_ix ix_list (pv 0) pe_int (fun _ _ => rfl))) (pa_cons (pe_at (M := M) (pe_ix ix_list (pv 0) pe_int (fun _ _ => rfl))) (pa_cons (pe_at (M := M) (pe_ix ix_list (pv 0) pe_int (fun _ _ => rfl))) (pa_cons (pe_at (M := M) (pe_ix ix_list (pv 0) pe_int (fun _ _ => rfl))) pa_nil)))))))))))
    (pss_cons (ps_set (i := 2) scKept.nd rfl (.inl rfl) (pe_lst (pa_cons (pe_at (M := M) (pe_ix ix_list (pv 0) pe_int (fun _ _ => rfl))) (pa_cons (pe_at (M := M) (pe_ix ix_list (pv 0) pe_int (fun _ _ => rfl))) (pa_cons (pe_at (M := M) (pe_ix ix_list (pv 0) pe_int (fun _ _ => rfl))) (pa_cons (pe_at (M := M) (pe_ix ix_list (pv 0) pe_int (fun _ _ => rfl))) (pa_cons (pe_at (M := M) (pe_ix ix_list (pv 0) pe_int (fun _ _ => rfl))) (pa_cons (pe_at (M := M) (pe_ix ix_list (pv 0) pe_int (fun _ _ => rfl))) (pa_cons (pe_at (M := M) (pe_ix ix_list (pv 0) pe_int (fun _ _ => rfl))) pa_nil)))))))))
    (pss_one (ps_ret (pe_lst (pa_cons (pv 1) (pa_cons (pv 2) (pa_cons (pe_lst (pa_cons (pe_at (M := M) (pe_ix ix_list (pv 0) pe_int (fun _ _ => rfl))) (pa_cons (pe_at (M := M) (pe_ix ix_list (pv 0) pe_int (fun _ _ => rfl))) (pa_cons (pe_at (M := M) (pe_ix ix_list (pv 0) pe_int (fun _ _ => rfl))) (pa_cons (pe_at (M := M) (pe_ix ix_list (pv 0) pe_int (fun _ _ => rfl))) pa_nil))))) pa_nil))))))), ?_⟩
  have z9 : 9 ≤ sizeLine := by decide
  have z7 : 7 ≤ sizeLine := by decide
  have z4 : 4 ≤ sizeLine := by decide
  have z3 : 3 ≤ sizeLine := by decide
  refine (at_arg T E (Same.refl H) 0 (by decide) rfl rfl (T.one 0 (by decide) rfl).2.2 rfl (at_arg T E (Same.refl H) 2 (by decide) rfl rfl (T.one 2 (by decide) rfl).2.2 rfl (at_arg T E (Same.refl H) 3 (by decide) rfl rfl (T.one 3 (by decide) rfl).2.2 rfl (at_arg T E (Same.refl H) 4 (by decide) rfl rfl (T.one 4 (by decide) rfl).2.2 rfl (at_arg T E (Same.refl H) 5 (by decide) rfl rfl (T.one 5 (by decide) rfl).2.2 rfl (at_arg T E (Same.refl H) 6 (by decide) rfl rfl (T.one 6 (by decide) rfl).2.2 rfl (at_arg T E (Same.refl H) 7 (by decide) rfl rfl (T.one 7 (by decide) rfl).2.2 rfl (at_arg T E (Same.refl H) 8 (by decide) rfl rfl (T.one 8 (by decide) rfl).2.2 rfl (at_arg T E (Same.refl H) 16 (by decide) rfl rfl (T.one 16 (by decide) rfl).2.2 rfl ⟨z9, fun a na => ?_⟩)))))))))
  have s1 := same_new na (.lst [v, v, v, v, v, v, v, v, v])
  refine (at_arg T E s1 1 (by decide) rfl rfl (T.two 1 (by decide) rfl).2.2.1 rfl (at_arg T E s1 10 (by decide) rfl rfl (T.two 10 (by decide) rfl).2.2.1 rfl (at_arg T E s1 11 (by decide) rfl rfl (T.two 11 (by decide) rfl).2.2.1 rfl (at_arg T E s1 12 (by decide) rfl rfl (T.one 12 (by decide) rfl).2.2 rfl (at_arg T E s1 13 (by decide) rfl rfl (T.one 13 (by decide) rfl).2.2 rfl (at_arg T E s1 14 (by decide) rfl rfl (T.one 14 (by decide) rfl).2.2 rfl (at_arg T E s1 15 (by decide) rfl rfl (T.one 15 (by decide) rfl).2.2 rfl ⟨z7, fun b nb => ?_⟩)))))))
  have s2 := s1.trans (same_new nb (.lst [t, t, t, t, t, t, t]))
  refine ⟨_, rfl, _, rfl, (at_arg T E s2 1 (by decide) rfl rfl (T.two 1 (by decide) rfl).2.2.2 rfl (at_arg T E s2 9 (by decide) rfl rfl (T.one 9 (by decide) rfl).2.2 rfl (at_arg T E s2 10 (by decide) rfl rfl (T.two 10 (by decide) rfl).2.2.2 rfl (at_arg T E s2 11 (by decide) rfl rfl (T.two 11 (by decide) rfl).2.2.2 rfl ⟨z4, fun c nc => ⟨z3, fun r nr => ?_⟩⟩))))⟩
  have s3 := (same_new nc (.lst [n, n, n, n])).trans (same_new nr (.lst [.ref a, .ref b, .ref c]))
  exact q r a b c _ (s2.trans s3) upd_same (s3 _ _ (same_new nb _ _ _ upd_same)) (s3 _ _ upd_same) (same_new nr _ _ _ upd_same)
/-! ### _law_raise -/
def spRaise (Cf : Nat → Addr) : Sp := fun vs H _ E => ∃ (k : Nat) (v t n : V), vs = [.int k, v, t, n] ∧ k < 17 ∧ ∀ d fs H', Same H H' → H' d = some (.xd fs) → E (.ref (Cf k)) (some d) H'
theorem scRaise : FnScope ["_law_k", "_law_one", "_law_text", "_law_number"] ["_law_k", "_law_one", "_law_text", "_law_number"] (defScope sRaise) := ⟨rfl, rfl, rfl, by decide +kernel, rfl, by decide +kernel, by decide +kernel⟩
theorem Cl17.raises (T : Cl17 P w K mg M Cf) {X : Cx} (hX : X.K = K) {k : Nat} (hk : k < 17) : Raises X (.ref (Cf k)) := raises_own (by rw [hX]; exact (T.xf k hk).exc) (by rw [hX]; exact (T.xf k hk).ty)
theorem ok_raise (T : Cl17 P w K mg M Cf) {f : Addr} {fd : FuncData} (F : Fun K "_law_raise" "_law_raise" sRaise f fd) : FnOk P w K mg base (L2.CX P w) 1 f fd ["_law_k", "_law_one", "_law_text", "_law_number"] (spRaise Cf) := by
  refine F.okX scRaise (fun vs H Q E h => ?_) (fun cdv A outer s H vs Q E hr h => ?_)
  · obtain ⟨_, _, _, _, rfl, _⟩ := h
    rfl
  obtain ⟨k, v, t, n, rfl, hk, q⟩ := h
  have hd : (A.deeper (envOfC "_law_raise" (defScope sRaise) s.heap.objs.size f cdv)).depth + 1 < recursionLimit := by
    have z := hr.dp
    omega
  refine ⟨_, pss_cons (ps_if (pt_cmpR op_eq (pv 0) pe_int (nomark _)) (pss_one (ps_raise rfl (takes_of rfl rfl rfl rfl) (pmk_newP (T.one 0 (by decide) rfl).1 (T.raises rfl (by decide)) hd (by rfl) (T.g 0 (by decide)) (pa_cons (pv 1) pa_nil)))) pss_nil)
    (pss_cons (ps_if (pt_cmpR op_eq (pv 0) pe_int (nomark _)) (pss_one (ps_raise rfl (takes_of rfl rfl rfl rfl) (pmk_newP (T.two 1 (by decide) rfl).1 (T.raises rfl (by decide)) hd (by rfl) (T.g 1 (by decide)) (pa_cons (pv 2) (pa_cons (pv 3) pa_nil))))) pss_nil)
    (pss_cons (ps_if (pt_cmpR op_eq (pv 0) pe_int (nomark _)) (pss_one (ps_raise rfl (takes_of rfl rfl rfl rfl) (pmk_newP (T.one 2 (by decide) rfl).1 (T.raises rfl (by decide)) hd (by rfl) (T.g 2 (by decide)) (pa_cons (pv 1) pa_nil)))) pss_nil)
    (pss_cons (ps_if (pt_cmpR op_eq (pv 0) pe_int (nomark _)) (pss_one (ps_raise rfl (takes_of rfl rfl rfl rfl) (pmk_newP (T.one 3 (by decide) rfl).1 (T.raises rfl (by decide)) hd (by rfl) (T.g 3 (by decide)) (pa_cons (pv 1) pa_nil)))) pss_nil)
    (pss_cons (ps_if (pt_cmpR op_eq (pv 0) pe_int (nomark _)) (pss_one (ps_raise rfl (takes_of rfl rfl rfl rfl) (pmk_newP (T.one 4 (by decide) rfl).1 (T.raises rfl (by decide)) hd (by rfl) (T.g 4 (by decide)) (pa_cons (pv 1) pa_nil)))) pss_nil)
    (pss_cons (ps_if (pt_cmpR op_eq (pv 0) pe_int (nomark _)) (pss_one (ps_raise rfl (takes_of rfl rfl rfl rfl) (pmk_newP (T.one 5 (by decide) rfl).1 (T.raises rfl (by decide)) hd (by rfl) (T.g 5 (by decide)) (pa_cons (pv 1) pa_nil)))) pss_nil)
    (pss_cons (ps_if (pt_cmpR op_eq (pv 0) pe_int (nomark _)) (pss_one (ps_raise rfl (takes_of rfl rfl rfl rfl) (pmk_newP (T.one 6 (by decide) rfl).1 (T.raises rfl (by decide)) hd (by rfl) (T.g 6 (by decide)) (pa_cons (pv 1) pa_nil)))) pss_nil)
    (pss_cons (ps_if (pt_cmpR op_eq (pv 0) pe_int (nomark _)) (pss_one (ps_raise rfl (takes_of rfl rfl rfl rfl) (pmk_newP (T.one 7 (by decide) rfl).1 (T.raises rfl (by decide)) hd (by rfl) (T.g 7 (by decide)) (pa_cons (pv 1) pa_nil)))) pss_nil)
    (pss_cons (ps_if (pt_cmpR op_eq (pv 0) pe_int (nomark _)) (pss_one (ps_raise rfl (takes_of rfl rfl rfl rfl) (pmk_newP (T.one 8 (by decide) rfl).1 (T.raises rfl (by decide)) hd (by rfl) (T.g 8 (by decide)) (pa_cons (pv 1) pa_nil)))) pss_nil)
    (pss_cons (ps_if (pt_cmpR op_eq (pv 0) pe_int (nomark _)) (pss_one (ps_raise rfl (takes_of rfl rfl rfl rfl) (pmk_newP (T.one 9 (by decide) rfl).1 (T.raises rfl (by decide)) hd (by rfl) (T.g 9 (by decide)) (pa_cons (pv 3) pa_nil)))) pss_nil)
    (pss_cons (ps_if (pt_cmpR op_eq (pv 0) pe_int (nomark _)) (pss_one (ps_raise rfl (takes_of rfl rfl rfl rfl) (pmk_newP (T.two 10 (by decide) rfl).1 (T.raises rfl (by decide)) hd (by rfl) (T.g 10 (by decide)) (pa_cons (pv 2) (pa_cons (pv 3) pa_nil))))) pss_nil)
    (pss_cons (ps_if (pt_cmpR op_eq (pv 0) pe_int (nomark _)) (pss_one (ps_raise rfl (takes_of rfl rfl rfl rfl) (pmk_newP (T.two 11 (by decide) rfl).1 (T.raises rfl (by decide)) hd (by rfl) (T.g 11 (by decide)) (pa_cons (pv 2) (pa_cons (pv 3) pa_nil))))) pss_nil)
    (pss_cons (ps_if (pt_cmpR op_eq (pv 0) pe_int (nomark _)) (pss_one (ps_raise rfl (takes_of rfl rfl rfl rfl) (pmk_newP (T.one 12 (by decide) rfl).1 (T.raises rfl (by decide)) hd (by rfl) (T.g 12 (by decide)) (pa_cons (pv 2) pa_nil)))) pss_nil)
    (pss_cons (ps_if (pt_cmpR op_eq (pv 0) pe_int (nomark _)) (pss_one (ps_raise rfl (takes_of rfl rfl rfl rfl) (pmk_newP (T.one 13 (by decide) rfl).1 (T.raises rfl (by decide)) hd (by rfl) (T.g 13 (by decide)) (pa_cons (pv 2) pa_nil)))) pss_nil)
    (pss_cons (ps_if (pt_cmpR op_eq (pv 0) pe_int (nomark _)) (pss_one (ps_raise rfl (takes_of rfl rfl rfl rfl) (pmk_newP (T.one 14 (by decide) rfl).1 (T.raises rfl (by decide)) hd (by rfl) (T.g 14 (by decide)) (pa_cons (pv 2) pa_nil)))) pss_nil)
    (pss_cons (ps_if (pt_cmpR op_eq (pv 0) pe_int (nomark _)) (pss_one (ps_raise rfl (takes_of rfl rfl rfl rfl) (pmk_newP (T.one 15 (by decide) rfl).1 (T.raises rfl (by decide)) hd (by rfl) (T.g 15 (by decide)) (pa_cons (pv 2) pa_nil)))) pss_nil)
    (pss_one (ps_raise rfl (takes_of rfl rfl rfl rfl) (pmk_newP (T.one 16 (by decide) rfl).1 (T.raises rfl (by decide)) hd (by rfl) (T.g 16 (by decide)) (pa_cons (pv 1) pa_nil))))))))))))))))))), ?_⟩
  have key : ∀ {j : Int}, decide (V.int (k : Int) = V.int j) = true → j = k := fun c => (V.int.inj (of_decide_eq_true c)).symm
  have nkey : ∀ {j : Int}, ¬ decide (V.int (k : Int) = V.int j) = true → j ≠ k := fun c z => c (decide_eq_true (by rw [z]))
  refine ⟨_, rfl, rfl, _, rfl, ite2 (fun c => ?_) (fun c0 => ?_)⟩
  · have z := key c
    obtain rfl : k = 0 := by omega
    exact ⟨_, rfl, rfl, fun d nd => q d _ _ (same_new nd _) upd_same⟩
  refine ⟨_, rfl, rfl, _, rfl, ite2 (fun c => ?_) (fun c1 => ?_)⟩
  · have z := key c
    obtain rfl : k = 1 := by omega
    exact ⟨_, rfl, _, rfl, rfl, fun d nd => q d _ _ (same_new nd _) upd_same⟩
  refine ⟨_, rfl, rfl, _, rfl, ite2 (fun c => ?_) (fun c2 => ?_)⟩
  · have z := key c
    obtain rfl : k = 2 := by omega
    exact ⟨_, rfl, rfl, fun d nd => q d _ _ (same_new nd _) upd_same⟩
  refine ⟨_, rfl, rfl, _, rfl, ite2 (fun c => ?_) (fun c3 => ?_)⟩
  · have z := key c
    obtain rfl : k = 3 := by omega
    exact ⟨_, rfl, rfl, fun d nd => q d _ _ (same_new nd _) upd_same⟩
  refine ⟨_, rfl, rfl, _, rfl, ite2 (fun c => ?_) (fun c4 => ?_)⟩
  · have z := key c
    obtain rfl : k = 4 := by omega
    exact ⟨_, rfl, rfl, fun d nd => q d _ _ (same_new nd _) upd_same⟩
  refine ⟨_, rfl, rfl, _, rfl, ite2 (fun c => ?_) (fun c5 => ?_)⟩
  · have z := key c
    obtain rfl : k = 5 := by omega
    exact ⟨_, rfl, rfl, fun d nd => q d _ _ (same_new nd _) upd_same⟩
  refine ⟨_, rfl, rfl, _, rfl, ite2 (fun c => ?_) (fun c6 => ?_)⟩
  · have z := key c
    obtain rfl : k = 6 := by omega
    exact ⟨_, rfl, rfl, fun d nd => q d _ _ (same_new nd _) upd_same⟩
  refine ⟨_, rfl, rfl, _, rfl, ite2 (fun c => ?_) (fun c7 => ?_)⟩
  · have z := key c
    obtain rfl : k = 7 := by omega
    exact ⟨_, rfl, rfl, fun d nd => q d _ _ (same_new nd _) upd_same⟩
  refine ⟨_, rfl, rfl, _, rfl, ite2 (fun c => ?_) (fun c8 => ?_)⟩
  · have z := key c
    obtain rfl : k = 8 := by omega
    exact ⟨_, rfl, rfl, fun d nd => q d _ _ (same_new nd _) upd_same⟩
  refine ⟨_, rfl, rfl, _, rfl, ite2 (fun c => ?_) (fun c9 => ?_)⟩
  · have z := key c
    obtain rfl : k = 9 := by omega
    exact ⟨_, rfl, rfl, fun d nd => q d _ _ (same_new nd _) upd_same⟩
  refine ⟨_, rfl, rfl, _, rfl, ite2 (fun c => ?_) (fun c10 => ?_)⟩
  · have z := key c
    obtain rfl : k = 10 := by omega
    exact ⟨_, rfl, _, rfl, rfl, fun d nd => q d _ _ (same_new nd _) upd_same⟩
  refine ⟨_, rfl, rfl, _, rfl, ite2 (fun c => ?_) (fun c11 => ?_)⟩
  · have z := key c
    obtain rfl : k = 11 := by omega
    exact ⟨_, rfl, _, rfl, rfl, fun d nd => q d _ _ (same_new nd _) upd_same⟩
  refine ⟨_, rfl, rfl, _, rfl, ite2 (fun c => ?_) (fun c12 => ?_)⟩
  · have z := key c
    obtain rfl : k = 12 := by omega
    exact ⟨_, rfl, rfl, fun d nd => q d _ _ (same_new nd _) upd_same⟩
  refine ⟨_, rfl, rfl, _, rfl, ite2 (fun c => ?_) (fun c13 => ?_)⟩
  · have z := key c
    obtain rfl : k = 13 := by omega
    exact ⟨_, rfl, rfl, fun d nd => q d _ _ (same_new nd _) upd_same⟩
  refine ⟨_, rfl, rfl, _, rfl, ite2 (fun c => ?_) (fun c14 => ?_)⟩
  · have z := key c
    obtain rfl : k = 14 := by omega
    exact ⟨_, rfl, rfl, fun d nd => q d _ _ (same_new nd _) upd_same⟩
  refine ⟨_, rfl, rfl, _, rfl, ite2 (fun c => ?_) (fun c15 => ?_)⟩
  · have z := key c
    obtain rfl : k = 15 := by omega
    exact ⟨_, rfl, rfl, fun d nd => q d _ _ (same_new nd _) upd_same⟩
  obtain rfl : k = 16 := by
    have n0 := nkey c0
    have n1 := nkey c1
    have n2 := nkey c2
    have n3 := nkey c3
    have n4 := nkey c4
    have n5 := nkey c5
    have n6 := nkey c6
    have n7 := nkey c7
    have n8 := nkey c8
    have n9 := nkey c9
    have n10 := nkey c10
    have n11 := nkey c11
    have n12 := nkey c12
    have n13 := nkey c13
    have n14 := nkey c14
    have n15 := nkey c15
    omega
  exact ⟨_, rfl, rfl, fun d nd => q d _ _ (same_new nd _) upd_same⟩
end
end Mv
/-! _law_raised, _law_right. -/
namespace Mv
open PySem PySem.Spec PyProof.Rows L2 MvX
theorem PE.imp {X : Cx} {e : Expr} {t t' : TE} (h : PE X e t) (hi : ∀ σ H Q, t' σ H Q → t σ H Q) : PE X e t' := ⟨fun pins s σ H Q I hw => h.run pins s σ H Q I (hi _ _ _ hw)⟩
/-- _law_kinds of the caught exception -/
def tKP (Cf : Nat → Addr) (a : Addr) (cls : Value) (d : Option Addr) (ta : TA) : TE := fun σ H Q => ta σ H fun vs H1 => ∃ (dd : Addr) (fs : List (Str × V)) (k : Nat), vs = [.ref a] ∧ k < 17 ∧ cls = .ref (Cf k) ∧ d = some dd ∧ H1 dd = some (.xd fs) ∧ ∀ p H', Same H1 H' → H1 p = none → H' p = some (.lst (flags k)) → Q (.ref p) H'
def bits (k : Nat) : List Bool := [decide (0 = k), decide (1 = k), decide (2 = k), decide (3 = k), decide (4 = k), decide (5 = k), decide (6 = k), decide (7 = k), decide (8 = k), decide (9 = k), decide (10 = k), decide (11 = k), decide (12 = k), decide (13 = k), decide (14 = k), decide (15 = k), decide (16 = k)]
theorem flags_bits (k : Nat) : flags k = (bits k).map V.bl := rfl
def fdat (k : Nat) : PyData := .list ((bits k).map PyData.bool)
theorem fdat_ok : ∀ k < 17, SeqAt.shaped (fdat k) = true := by decide +kernel
theorem due_ok : ∀ k < 17, ((List.replicate 17 [V.bl false]).flatten).set k (V.bl true) = flags k := by decide +kernel
theorem dps {K : PySem.W.Frag} {H : Hp} : ∀ bs : List Bool, DpAll K H (bs.map V.bl) (bs.map PyData.bool)
  | [] => .nil
  | b :: r => .cons (.bl b) (dps r)
theorem dp_flags {K : PySem.W.Frag} {H : Hp} {p : Addr} {k : Nat} (e : H p = some (.lst (flags k))) : Dp K H (.ref p) (fdat k) := .lst (SqL.of e) (dps (bits k))
theorem same_flags {k : Nat} (hk : k < 17) : (!PyData.eqv (fdat k) (fdat k)) = false := by
  rw [SeqAt.eqv_refl _ (SeqAt.canLay_of_shaped (fdat_ok k hk))]
  rfl
section
variable {P : Program} {w : World} {K : PySem.W.Frag} {mg : Str → Option Value} {base : Heap} {M : Addr} {Cf : Nat → Addr}
def spRaised (Cf : Nat → Addr) : Sp := fun vs H Q _ => ∃ (k : Nat) (v t n : V), vs = [.int k, v, t, n] ∧ k < 17 ∧ ∀ p H', Same H H' → H p = none → H' p = some (.lst (flags k)) → Q (.ref p) H'
theorem scRaised : FnScope ["_law_k", "_law_one", "_law_text", "_law_number", "_law_e"] ["_law_k", "_law_one", "_law_text", "_law_number"] (defScope sRaised) := ⟨rfl, rfl, rfl, by decide +kernel, rfl, by decide +kernel, by decide +kernel⟩
theorem ok_raised (T : Cl17 P w K mg M Cf) {f fR fK : Addr} {fd fdR fdK : FuncData} (F : Fun K "_law_raised" "_law_raised" sRaised f fd)
    (GR : FnOk P w K mg base (L2.CX P w) 1 fR fdR ["_law_k", "_law_one", "_law_text", "_law_number"] (spRaise Cf)) (kR : PySem.W.keepIn K (.ref fR) = true) (gR : mg "_law_raise" = some (.ref fR)) (bR : Binds K fdR ["_law_k", "_law_one", "_law_text", "_law_number"] [])
    (GK : FnP P w K mg base 1 fK fdK ["_law_e"] (spKindsP Cf)) (kK : PySem.W.keepIn K (.ref fK) = true) (gK : mg "_law_kinds" = some (.ref fK)) (bK : Binds K fdK ["_law_e"] []) :
    FnOk P w K mg base CX0 2 f fd ["_law_k", "_law_one", "_law_text", "_law_number"] (spRaised Cf) := by
  refine F.ok scRaised (fun vs H Q E h => ?_) (fun cdv A outer s H vs Q E hr h => ?_)
  · obtain ⟨_, _, _, _, rfl, _⟩ := h
    rfl
  obtain ⟨k, v, t, n, rfl, hk, q⟩ := h
  refine ⟨_, pss_cons (ps_try_as (i := 4) (tb := fun W => tDrop (tCallS (spRaise Cf) (WE W) (tCons (tVar 0) (tCons (tVar 1) (tCons (tVar 2) (tCons (tVar 3) tNil)))))) (ts := fun a cls d => tRet (tKP Cf a cls d (tCons (tVar 4) tNil))) (Wout := fun _ _ _ _ => False) rfl rfl scRaised.nd rfl rfl ⟨rfl, by decide, Or.inl T.gM⟩ takes0
      (fun W pn xe tk _ => pss_one (ps_expr (pe_callS GR hr rfl gR kR bR (fun σ => passAt tk σ) (pa_cons (pv 0) (pa_cons (pv 1) (pa_cons (pv 2) (pa_cons (pv 3) pa_nil)))))))
      (fun a oe cls d pn hz hf => pss_one (ps_ret (PE.imp (pe_callP (a := a) (oe := oe) GK (fun vs H Q E h => by obtain ⟨_, _, _, rfl, _⟩ := h; rfl) ⟨hr.dp, hr.un⟩ List.mem_cons_self rfl gK kK bK (pa_cons (pv 4) pa_nil)) ?_))))
    (pss_one (ps_ret pe_non)), ?_⟩
  · rintro σ H Q ⟨x, hx, dd, fs, k, e1, e2, e3, e4, e5, e6⟩
    exact ⟨x, hx, dd, fs, k, e1, e2, hz.1.trans e3, hz.2.trans e4, hf, e5, e6⟩
  · refine ⟨_, rfl, _, rfl, _, rfl, _, rfl, k, v, t, n, rfl, hk, fun d fs H' s e => ?_⟩
    refine ⟨true, exm_base (T.xf k hk) T.gf, fun _ a ha => ?_, fun z => nomatch z⟩
    exact ⟨_, rfl, d, fs, k, rfl, hk, rfl, rfl, e, fun p H'' s' n' e' => q p H'' (s.trans s') (s.free n') e'⟩
end
end Mv
/-! _law_right. -/
namespace Mv
open PySem PySem.Spec PyProof.Rows L2 MvX
theorem Errs.same {Cf : Nat → Addr} {v t n : V} {H H' : Hp} {p : Addr} (s : Same H H') (h : Errs Cf v t n H p) : Errs Cf v t n H' p := by
  obtain ⟨es, e, r⟩ := h
  exact ⟨es, s _ _ e, L2.Paired.mapP r fun _ _ z => z.same s⟩
theorem k17_at {k : Nat} (hk : k < 17) : k17[k]? = some k := by
  have z : ∀ k < 17, k17[k]? = some k := by decide +kernel
  exact z k hk
/-- what is left of the check: a list of alike lists -/
theorem al_three {H : Hp} {n : Nat} {r a b c r' a' b' c' : Addr} {v t m : V} (hv : Al H n v v) (ht : flat1 t = true) (hm : flat1 m = true) (e : H r = some (.lst [.ref a, .ref b, .ref c])) (ea : H a = some (.lst [v, v, v, v, v, v, v, v, v])) (eb : H b = some (.lst [t, t, t, t, t, t, t])) (ec : H c = some (.lst [m, m, m, m]))
    (e' : H r' = some (.lst [.ref a', .ref b', .ref c'])) (ea' : H a' = some (.lst [v, v, v, v, v, v, v, v, v])) (eb' : H b' = some (.lst [t, t, t, t, t, t, t])) (ec' : H c' = some (.lst [m, m, m, m])) : Al H (n + 2) (.ref r) (.ref r') := by
  have all : ∀ {x : V} {xs : List V}, (∀ y ∈ xs, y = x) → Al H n x x → ∀ (i : Nat) (u w : V), xs[i]? = some u → xs[i]? = some w → Al H n u w := fun hx al i u w h1 h2 => by
    rw [h1] at h2
    cases h2
    rw [hx u (List.mem_of_getElem? h1)]
    exact al
  have aA : Al H (n + 1) (.ref a) (.ref a') := .inr ⟨a, a', _, _, rfl, rfl, .inl ⟨ea, ea'⟩, rfl, by simp, all (x := v) (by simp) hv⟩
  have aB : Al H (n + 1) (.ref b) (.ref b') := .inr ⟨b, b', _, _, rfl, rfl, .inl ⟨eb, eb'⟩, rfl, by simp, all (x := t) (by simp) (Al.flat ht n)⟩
  have aC : Al H (n + 1) (.ref c) (.ref c') := .inr ⟨c, c', _, _, rfl, rfl, .inl ⟨ec, ec'⟩, rfl, by simp, all (x := m) (by simp) (Al.flat hm n)⟩
  refine .inr ⟨r, r', _, _, rfl, rfl, .inl ⟨e, e'⟩, rfl, by simp, fun i u w h1 h2 => ?_⟩
  match i, h1, h2 with
  | 0, h1, h2 =>
    cases h1
    cases h2
    exact aA
  | 1, h1, h2 =>
    cases h1
    cases h2
    exact aB
  | 2, h1, h2 =>
    cases h1
    cases h2
    exact aC
  | i + 3, h1, _ => simp at h1
section
variable {P : Program} {w : World} {K : PySem.W.Frag} {mg : Str → Option Value} {base : Heap} {M : Addr} {Cf : Nat → Addr}
def spRight (Cf : Nat → Addr) (n : Nat) : Sp := fun vs H Q _ => ∃ (p : Addr) (v t m : V), vs = [.ref p, v, t, m] ∧ flat1 t = true ∧ flat1 m = true ∧ Errs Cf v t m H p ∧ Al H n v v ∧ ∀ H', Same H H' → Q (.bl true) H'
theorem scRight : FnScope ["_law_errors", "_law_one", "_law_text", "_law_number", "_law_k", "_law_due"] ["_law_errors", "_law_one", "_law_text", "_law_number"] (defScope sRight) := ⟨rfl, rfl, rfl, by decide +kernel, rfl, by decide +kernel, by decide +kernel⟩
theorem ok_right (T : Cl17 P w K mg M Cf) (B : Blt mg) (n : Nat) {f fK fR fL fE : Addr} {fd fdK fdR fdL fdE : FuncData} (F : Fun K "_law_right" "_law_right" sRight f fd)
    (GK : FnOk P w K mg base CX0 1 fK fdK ["_law_e"] (spKinds Cf)) (kK : PySem.W.keepIn K (.ref fK) = true) (gK : mg "_law_kinds" = some (.ref fK)) (bK : Binds K fdK ["_law_e"] [])
    (GR : FnOk P w K mg base CX0 2 fR fdR ["_law_k", "_law_one", "_law_text", "_law_number"] (spRaised Cf)) (kR : PySem.W.keepIn K (.ref fR) = true) (gR : mg "_law_raised" = some (.ref fR)) (bR : Binds K fdR ["_law_k", "_law_one", "_law_text", "_law_number"] [])
    (GL : FnOk P w K mg base CX0 (n + 3) fL fdL ["_law_found", "_law_due"] (spLike (n + 3))) (kL : PySem.W.keepIn K (.ref fL) = true) (gL : mg "_law_like" = some (.ref fL)) (bL : Binds K fdL ["_law_found", "_law_due"] [])
    (GE : FnOk P w K mg base CX0 1 fE fdE ["_law_e"] (spKept Cf)) (kE : PySem.W.keepIn K (.ref fE) = true) (gE : mg "_law_kept" = some (.ref fE)) (bE : Binds K fdE ["_law_e"] []) :
    FnOk P w K mg base CX0 (n + 4) f fd ["_law_errors", "_law_one", "_law_text", "_law_number"] (spRight Cf n) := by
  refine F.ok scRight (fun vs H Q E h => ?_) (fun cdv A outer s H vs Q E hr h => ?_)
  · obtain ⟨_, _, _, _, rfl, _⟩ := h
    rfl
  obtain ⟨p, v, t, m, rfl, ft, fm, E, al, q⟩ := h
  have hr1 : Room 1 _ := hr.mono (by omega)
  have hr2 : Room 2 _ := hr.mono (by omega)
  refine ⟨_, pss_cons (ps_for PassesOwn.never rfl (pi_range1 (by rfl) B.range (pa_cons pe_int pa_nil)) (pg_name (i := 4) scRight.nd rfl (.inl rfl))
      (pss_cons (ps_set (i := 5) scRight.nd rfl (.inl rfl) (pe_op op_rep (pe_lst (pa_cons pe_bl pa_nil)) pe_int))
      (pss_cons (ps_asg pe_bl (pg_sub (pv 5) (pv 4) set_list))
      (pss_cons (ps_if (PW.pt (pw_or (pt_cmpR (op_neD hr.units) (pe_call GK hr1 (by rfl) gK kK bK .nil pass0 (pa_cons (pe_ix ix_list (pv 0) (pv 4) (fun _ _ => rfl)) pa_nil)) (pv 5) (nomark _))
          (pw_or1 (pt_cmpR (op_neD hr.units) (pe_call GR hr2 (by rfl) gR kR bR .nil pass0 (pa_cons (pv 4) (pa_cons (pv 1) (pa_cons (pv 2) (pa_cons (pv 3) pa_nil))))) (pv 5) (nomark _))))) (pss_one (ps_ret pe_bl)) pss_nil)
      (pss_one (ps_if (PW.pt (pw_or (pt_not (pt_val (pe_callB (call_isX T.gf) (by rfl) B.isinst b_isinst (pa_cons (pe_ix ix_list (pv 0) (pv 4) (fun _ _ => rfl)) (pa_cons (pe_glob (v := .ref M) (by rfl) T.gM rfl) pa_nil)))))
          (pw_or1 (pt_not (pt_val (pe_callB (call_isX T.gf) (by rfl) B.isinst b_isinst (pa_cons (pe_ix ix_list (pv 0) (pv 4) (fun _ _ => rfl)) (pa_cons (pe_bltn (v := .ty "ValueError") (by rfl) B.ve b_VE rfl) pa_nil)))))))) (pss_one (ps_ret pe_bl)) pss_nil))))))
    (pss_one (ps_ret (pe_call GL hr (by rfl) gL kL bL .nil pass0 (pa_cons (pe_call GE hr1 (by rfl) gE kE bE .nil pass0 (pa_cons (pv 0) pa_nil))
      (pa_cons (pe_lst (pa_cons (pe_op op_rep (pe_lst (pa_cons (pv 1) pa_nil)) pe_int) (pa_cons (pe_op op_rep (pe_lst (pa_cons (pv 2) pa_nil)) pe_int) (pa_cons (pe_op op_rep (pe_lst (pa_cons (pv 3) pa_nil)) pe_int) pa_nil)))) pa_nil))))), ?_⟩
  refine ⟨17, rfl, by decide, by decide, ?_⟩
  refine for_range (lo := 0) (n := 17) (fun i σ H' => (∃ y4 y5, σ = [some (.ref p), some v, some t, some m, y4, y5]) ∧ Same H H') ⟨⟨_, _, rfl⟩, Same.refl H⟩ ?_ ?_
  · rintro i σ H1 hi ⟨⟨y4, y5, rfl⟩, s1⟩
    have ei : (0 + (i : Int)) = ((i : Nat) : Int) := by omega
    rw [ei]
    -- due
    refine ⟨by show 1 ≤ sizeLine; decide, fun l nl => ⟨l, 17, _, rfl, rfl, upd_same, by decide, by decide, by show 17 ≤ sizeLine; decide, fun u nu => ?_⟩⟩
    have s2 := (s1.trans (same_new nl (.lst [.bl false]))).trans (same_new nu (.lst (List.replicate (17 : Int).toNat [V.bl false]).flatten))
    have nu0 : H u = none := (s1.trans (same_new nl (.lst [.bl false]))).free nu
    refine ⟨_, rfl, _, rfl, u, _, _, i, rfl, rfl, upd_same, ?_, ?_⟩
    · unfold ixN
      rw [if_pos (by omega), if_pos (by show (i : Int) < 17; omega)]
      rfl
    obtain ⟨H3, eH, s3, eu⟩ : ∃ H3 : Hp, H3 = upd (upd (upd H1 l (HO.lst [.bl false])) u (HO.lst (List.replicate (17 : Int).toNat [V.bl false]).flatten)) u (HO.lst ((List.replicate (17 : Int).toNat [V.bl false]).flatten.set i (.bl true))) ∧ Same H H3 ∧ H3 u = some (.lst (flags i)) := by
      refine ⟨_, rfl, fun x o hx => ?_, ?_⟩
      · have hu : x ≠ u := fun z => by
          rw [z] at hx
          rw [nu0] at hx
          cases hx
        rw [upd_ne hu]
        exact s2 x o hx
      · rw [upd_same]
        exact congrArg (fun z => some (HO.lst z)) (due_ok i hi)
    rw [← eH]
    clear eH s2 nu nu0 nl
    obtain ⟨es, ep, pr⟩ := E.same s3
    obtain ⟨a, ha, d, ea, ed⟩ := paired_get pr (k17_at hi)
    have hat : atI (es.map V.ref) i = some (.ref a) := at_of rfl (by rw [List.getElem?_map, ha]; rfl)
    refine ⟨_, rfl, _, rfl, p, es.map V.ref, i, .ref a, rfl, rfl, SqL.of ep, hat, a, d, _, i, rfl, hi, ea, ed, fun p1 H4 s4 n1 e1 => ?_⟩
    have s34 := s3.trans s4
    have eu4 := s4 _ _ eu
    refine ⟨_, rfl, fdat i, fdat i, dp_flags e1, dp_flags eu4, fdat_ok i hi, fdat_ok i hi, _, rfl, iteD (same_flags hi) ?_⟩
    refine ⟨_, rfl, _, rfl, _, rfl, _, rfl, i, v, t, m, rfl, hi, fun p2 H5 s5 n2 e2 => ?_⟩
    have s35 := s34.trans s5
    have eu5 := s5 _ _ eu4
    refine ⟨_, rfl, fdat i, fdat i, dp_flags e2, dp_flags eu5, fdat_ok i hi, fdat_ok i hi, _, rfl, iteD (same_flags hi) ?_⟩
    have s45 := s4.trans s5
    refine ⟨_, rfl, _, rfl, p, es.map V.ref, i, .ref a, rfl, rfl, SqL.of (s45 _ _ ep), hat, a, Cf i, d, _, _, _, _, rfl, s45 _ _ ea, s45 _ _ ed, T.xf i hi, .own M, kit_base (T.xf i hi) T.gf, ?_⟩
    refine ⟨_, rfl, iteD rfl ⟨_, rfl, _, rfl, p, es.map V.ref, i, .ref a, rfl, rfl, SqL.of (s45 _ _ ep), hat, a, Cf i, d, _, _, _, _, rfl, s45 _ _ ea, s45 _ _ ed, T.xf i hi, .ty "ValueError", kit_VE (T.xf i hi), _, rfl, iteD rfl ?_⟩⟩
    exact ⟨⟨_, _, rfl⟩, s35⟩
  · rintro σ H1 ⟨⟨y4, y5, rfl⟩, s1⟩
    refine ⟨_, rfl, p, v, t, m, rfl, E.same s1, fun r a b c H2 s2 er ea eb ec => ?_⟩
    have z1 : 1 ≤ sizeLine := by decide
    have z3 : 3 ≤ sizeLine := by decide
    refine ⟨_, rfl, ⟨z1, fun l1 n1 => ⟨l1, 9, _, rfl, rfl, upd_same, by decide, by decide, by show 9 ≤ sizeLine; decide, fun a1 na => ?_⟩⟩⟩
    have sa := (same_new n1 (.lst [v])).trans (same_new na (.lst (List.replicate (9 : Int).toNat [v]).flatten))
    refine ⟨_, rfl, ⟨z1, fun l2 n2 => ⟨l2, 7, _, rfl, rfl, upd_same, by decide, by decide, by show 7 ≤ sizeLine; decide, fun b1 nb => ?_⟩⟩⟩
    have sb := (same_new n2 (.lst [t])).trans (same_new nb (.lst (List.replicate (7 : Int).toNat [t]).flatten))
    refine ⟨_, rfl, ⟨z1, fun l3 n3 => ⟨l3, 4, _, rfl, rfl, upd_same, by decide, by decide, by show 4 ≤ sizeLine; decide, fun c1 nc => ?_⟩⟩⟩
    have sc := (same_new n3 (.lst [m])).trans (same_new nc (.lst (List.replicate (4 : Int).toNat [m]).flatten))
    refine ⟨z3, fun r1 nr => ?_⟩
    have sr := same_new nr (.lst [.ref a1, .ref b1, .ref c1])
    have sf := sa.trans (sb.trans (sc.trans sr))
    refine ⟨.ref r, .ref r1, rfl, al_three (al.same ((s1.trans s2).trans sf)) ft fm (sf _ _ er) (sf _ _ ea) (sf _ _ eb) (sf _ _ ec) upd_same
      (sb.trans (sc.trans sr) _ _ upd_same) (sc.trans sr _ _ upd_same) (sr _ _ upd_same), q _ ((s1.trans s2).trans sf)⟩
end
end Mv
/-! law. -/
namespace Mv
open PySem PySem.Spec PyProof.Rows L2 MvX
/-- errors made of a list, kept while the list is changed -/
theorem Errs.set {Cf : Nat → Addr} {v t n : V} {H : Hp} {p q : Addr} {xs ys : List V} (h : Errs Cf v t n H p) (e : H q = some (.lst xs)) (np : p ≠ q) : Errs Cf v t n (upd H q (.lst ys)) p := by
  obtain ⟨es, ep, r⟩ := h
  refine ⟨es, by rw [upd_ne np]; exact ep, L2.Paired.mapP r fun k a z => ?_⟩
  obtain ⟨d, e1, e2⟩ := z
  have na : a ≠ q := fun z => by rw [z, e] at e1; cases e1
  have nd : d ≠ q := fun z => by rw [z, e] at e2; cases e2
  exact ⟨d, by rw [upd_ne na]; exact e1, by rw [upd_ne nd]; exact e2⟩
theorem nw_on {H H1 H2 : Hp} {h dl : Addr} {o : HO} (e : H h = some o) (W : Went H1 H2 h dl) : Same (nw H H1) (nw H H2) := fun b u z => by
  obtain ⟨z1, z2⟩ := nw_some z
  have bh : b ≠ h := fun y => by rw [y, e] at z1; cases z1
  rw [nw_of z1]
  exact W.keep b u bh z2
theorem nw_le {H H1 : Hp} : Same (nw H H1) H1 := fun b u z => (nw_some z).2
theorem al_one {H : Hp} {n : Nat} {q : Addr} {v : V} (e : H q = some (.lst [v, v])) (a : Al H n v v) : Al H (n + 1) (.ref q) (.ref q) :=
  .inr ⟨q, q, _, _, rfl, rfl, .inl ⟨e, e⟩, rfl, by simp, fun i u w h1 h2 => by
    rw [h1] at h2
    cases h2
    have z := List.mem_of_getElem? h1
    simp only [List.mem_cons, List.not_mem_nil, or_false, or_self] at z
    rw [z]
    exact a⟩
def signs : Str := "ab/0,; -"
theorem sign_at : ∀ k < 8, (signs.cps.toList[k]?).isSome = true := by decide +kernel
def nLaw : List Str := ["_law_script", "_law_hand", "_law_one", "_law_text", "_law_number", "_law_changing", "_law_errors", "_law_k"]
section
variable {P : Program} {w : World} {K : PySem.W.Frag} {mg : Str → Option Value} {base : Heap} {M : Addr} {Cf : Nat → Addr}
def spLaw (K : PySem.W.Frag) : Sp := fun vs H Q _ => ∃ (a : Addr) (ns : List Int), vs = [.ref a] ∧ SqL K H a (ns.map V.int) ∧ ns.length ≤ 63 ∧ ∀ H', Q (.bl true) H'
theorem scLaw : FnScope nLaw ["_law_script"] (defScope sLaw) := ⟨rfl, rfl, rfl, by decide +kernel, rfl, by decide +kernel, by decide +kernel⟩
theorem ok_law (B : Blt mg) {f fD fT fO fR fM fN : Addr} {fd fdD fdT fdO fdR fdM fdN : FuncData} (F : Fun K "law" "law" sLaw f fd)
    (GD : FnOk P w K mg base CX0 1 fD fdD ["_law_script", "_law_many"] (spDraws K)) (kD : PySem.W.keepIn K (.ref fD) = true) (gD : mg "_law_draws" = some (.ref fD)) (bD : Binds K fdD ["_law_script", "_law_many"] [])
    (GT : FnOk P w K mg base CX0 1 fT fdT ["_law_hand", "_law_many"] (spTake K)) (kT : PySem.W.keepIn K (.ref fT) = true) (gT : mg "_law_take" = some (.ref fT)) (bT : Binds K fdT ["_law_hand", "_law_many"] [])
    (GO : FnOk P w K mg base CX0 5 fO fdO ["_law_hand", "_law_depth"] (spOdd K 4)) (kO : PySem.W.keepIn K (.ref fO) = true) (gO : mg "_law_odd" = some (.ref fO)) (bO : Binds K fdO ["_law_hand", "_law_depth"] [])
    (GR : FnOk P w K mg base CX0 9 fR fdR ["_law_errors", "_law_one", "_law_text", "_law_number"] (spRight Cf 5)) (kR : PySem.W.keepIn K (.ref fR) = true) (gR : mg "_law_right" = some (.ref fR)) (bR : Binds K fdR ["_law_errors", "_law_one", "_law_text", "_law_number"] [])
    (GM : FnOk P w K mg base CX0 1 fM fdM ["_law_one", "_law_text", "_law_number"] (spMade Cf)) (kM : PySem.W.keepIn K (.ref fM) = true) (gM : mg "_law_made" = some (.ref fM)) (bM : Binds K fdM ["_law_one", "_law_text", "_law_number"] [])
    (GN : FnOk P w K mg base CX0 1 fN fdN ["_law_one", "_law_text", "_law_number"] (spMade Cf)) (kN : PySem.W.keepIn K (.ref fN) = true) (gN : mg "_law_named" = some (.ref fN)) (bN : Binds K fdN ["_law_one", "_law_text", "_law_number"] []) :
    FnOk P w K mg base CX0 10 f fd ["_law_script"] (spLaw K) := by
  refine F.ok scLaw (fun vs H Q E h => ?_) (fun cdv A outer s H vs Q E hr h => ?_)
  · obtain ⟨_, _, rfl, _⟩ := h
    rfl
  obtain ⟨a, ns, rfl, hS, hn, q⟩ := h
  have hr1 : Room 1 _ := hr.mono (by omega)
  have hr5 : Room 5 _ := hr.mono (by omega)
  refine ⟨_, pss_cons (ps_set (i := 1) scLaw.nd rfl (.inr rfl) (pe_lst (pa_cons (pe_call GD hr1 (by rfl) gD kD bD .nil pass0 (pa_cons (pv 0) (pa_cons pe_int pa_nil))) (pa_cons pe_int pa_nil))))
    (pss_cons (ps_set (i := 2) scLaw.nd rfl (.inl rfl) (pe_call GO hr5 (by rfl) gO kO bO .nil pass0 (pa_cons (pv 1) (pa_cons pe_int pa_nil))))
    (pss_cons (ps_set (i := 3) scLaw.nd rfl (.inl rfl) (pe_join pe_str (pe_lc (own := [("_law_k", 7)]) (g := gName 7) (tt := tYes) rfl scLaw.nd (pi_range1 (by rfl) B.range (pa_cons (pe_call GT hr1 (by rfl) gT kT bT .nil pass0 (pa_cons (pv 1) (pa_cons pe_int pa_nil))) pa_nil))
        (blkOk_by (N := nLaw) (sc := defScope sLaw) (by decide +kernel)) (fun _ _ _ _ _ => pg_name (i := 7) scLaw.nd rfl (Or.inl rfl)) (fun _ _ _ _ _ => pts_nil)
        (fun _ _ _ _ _ => pe_ix ix_str pe_str (pe_call GT hr1 (by rfl) gT kT bT .nil pass0 (pa_cons (pv 1) (pa_cons pe_int pa_nil))) (fun _ _ => rfl)))))
    (pss_cons (ps_set (i := 4) scLaw.nd rfl (.inl rfl) (pe_call GT hr1 (by rfl) gT kT bT .nil pass0 (pa_cons (pv 1) (pa_cons pe_int pa_nil))))
    (pss_cons (ps_if (pt_not (pt_val (pe_call GR hr (by rfl) gR kR bR .nil pass0 (pa_cons (pe_call GM hr1 (by rfl) gM kM bM .nil pass0 (pa_cons (pv 2) (pa_cons (pv 3) (pa_cons (pv 4) pa_nil)))) (pa_cons (pv 2) (pa_cons (pv 3) (pa_cons (pv 4) pa_nil))))))) (pss_one (ps_ret pe_bl)) pss_nil)
    (pss_cons (ps_if (pt_not (pt_val (pe_call GR hr (by rfl) gR kR bR .nil pass0 (pa_cons (pe_call GN hr1 (by rfl) gN kN bN .nil pass0 (pa_cons (pv 2) (pa_cons (pv 3) (pa_cons (pv 4) pa_nil)))) (pa_cons (pv 2) (pa_cons (pv 3) (pa_cons (pv 4) pa_nil))))))) (pss_one (ps_ret pe_bl)) pss_nil)
    (pss_cons (ps_set (i := 5) scLaw.nd rfl (.inl rfl) (pe_lst (pa_cons (pv 2) pa_nil)))
    (pss_cons (ps_set (i := 6) scLaw.nd rfl (.inl rfl) (pe_call GM hr1 (by rfl) gM kM bM .nil pass0 (pa_cons (pv 5) (pa_cons (pv 3) (pa_cons (pv 4) pa_nil)))))
    (pss_cons (ps_expr (pe_bm PySem.F.plainAttrs_list PySem.F.slot_list_append PySem.F.type_list_append mt_append (pv 5) (pa_cons (pv 2) pa_nil)))
    (pss_one (ps_ret (pe_call GR hr (by rfl) gR kR bR .nil pass0 (pa_cons (pv 6) (pa_cons (pv 5) (pa_cons (pv 3) (pa_cons (pv 4) pa_nil))))))))))))))), ?_⟩
  have z2 : 2 ≤ sizeLine := by decide
  have z1 : 1 ≤ sizeLine := by decide
  refine ⟨_, rfl, a, ns, rfl, hS, by omega, fun dl ds H1 s1 ndl edl => ⟨z2, fun h nh => ?_⟩⟩
  have hd : dl ≠ h := ne_of_none edl nh
  have eh2 : (upd H1 h (.lst [.ref dl, .int 0])) h = some (.lst [.ref dl, .int 0]) := upd_same
  have ed2 : (upd H1 h (.lst [.ref dl, .int 0])) dl = some (.lst (ds.map V.int)) := by rw [upd_ne hd]; exact edl
  generalize upd H1 h (.lst [.ref dl, .int 0]) = H2 at eh2 ed2
  refine ⟨_, rfl, h, dl, ds, 0, rfl, eh2, ed2, Int.le_refl _, fun v H3 W3 al3 => ?_⟩
  have al3 : Al (nw H2 H3) 4 v v := al3
  obtain ⟨p3, hp3, eh3⟩ := W3.hand
  have ed3 := W3.keep dl _ hd ed2
  -- the text
  refine ⟨⟨_, rfl⟩, _, rfl, h, dl, ds, p3, 9, rfl, eh3, ed3, hp3, by decide, fun r r0 r1 => ⟨r, rfl, by omega, by omega, fun D nD => ?_⟩⟩
  have W4 := W3.trans (Went.took (p := p3) hp3 eh3)
  have al4 := al3.same (nw_on eh2 (Went.took (p := p3) hp3 eh3))
  have ed4 := W4.keep dl _ hd ed2
  have eh4 : (upd H3 h (.lst [.ref dl, .int (p3 + 1)])) h = some (.lst [.ref dl, .int (p3 + 1)]) := upd_same
  generalize upd H3 h (.lst [.ref dl, .int (p3 + 1)]) = H4 at W4 al4 ed4 eh4 nD
  have hDh : h ≠ D := ne_of_none eh4 nD
  have W44 : Went H4 H4 h dl := ⟨fun _ _ _ z => z, p3 + 1, by omega, eh4⟩
  refine lc_range (lo := 0) (n := r.toNat) (fun i H' => Went H4 H' h dl ∧ ∃ cs : List Str, (cs.map (·.length)).sum = i ∧ cs.length = i ∧ H' D = some (.lst (cs.map V.str))) ?_ ?_ ?_
  · exact ⟨W44.new _ nD, [], rfl, rfl, upd_same⟩
  · rintro i H' hi ⟨W', cs, sl, cl, eD⟩
    obtain ⟨p', hp', eh'⟩ := W'.hand
    have ed' := W'.keep dl _ hd ed4
    refine ⟨rfl, ?_⟩
    refine ⟨_, rfl, h, dl, ds, p', 8, rfl, eh', ed', hp', by decide, fun c c0 c1 => ?_⟩
    have W'' := W'.trans (Went.took (p := p') hp' eh')
    have eD'' : (upd H' h (.lst [.ref dl, .int (p' + 1)])) D = some (.lst (cs.map V.str)) := by rw [upd_ne (Ne.symm hDh)]; exact eD
    generalize upd H' h (.lst [.ref dl, .int (p' + 1)]) = H'' at W'' eD''
    obtain ⟨sg, hsg⟩ := Option.isSome_iff_exists.mp (sign_at c.toNat (by omega))
    have ec : c = ((c.toNat : Nat) : Int) := (Int.toNat_of_nonneg c0).symm
    refine ⟨signs, c, sg, rfl, rfl, by decide +kernel, by rw [ec]; exact atI_nat hsg, cs.map V.str, eD'', by rw [List.length_map, cl]; exact small1000 (by omega), ⟨fun b o nb e => ?_, ?_⟩, cs ++ [⟨#[sg]⟩], ?_, ?_, ?_⟩
    · rw [upd_ne (ne_of_none e nD)]
      exact W''.keep b o nb e
    · obtain ⟨p2, hp2, eh2⟩ := W''.hand
      exact ⟨p2, hp2, by rw [upd_ne hDh]; exact eh2⟩
    · rw [List.map_append, List.sum_append, sl]
      rfl
    · rw [List.length_append, cl]
      rfl
    · rw [upd_same, List.map_append]
      rfl
  rintro H5 ⟨W5, cs, sl, cl, eD⟩
  have al5 := al4.same (nw_on eh2 W5)
  have W25 := W4.trans W5
  have ed5 := W25.keep dl _ hd ed2
  obtain ⟨p5, hp5, eh5⟩ := W25.hand
  refine ⟨_, D, cs, rfl, rfl, .inl (SqL.of eD), ?_, ?_⟩
  · rw [sl]
    show r.toNat + cs.length * 0 ≤ 16777216
    omega
  have ft : flat1 (V.str (Txt.join "" cs)) = true := rfl
  generalize Txt.join _ cs = text at ft
  refine ⟨_, rfl, h, dl, ds, p5, 20001, rfl, eh5, ed5, hp5, by decide, fun num _ _ => ?_⟩
  have al6 := (al5.same (nw_on eh2 (Went.took (p := p5) hp5 eh5))).same nw_le
  generalize upd H5 h (.lst [.ref dl, .int (p5 + 1)]) = H6 at al6
  have fm : flat1 (V.int num) = true := rfl
  refine ⟨_, rfl, _, rfl, _, rfl, v, .str text, .int num, rfl, fun p7 H7 s7 n7 e7 => ⟨_, rfl, _, rfl, _, rfl, p7, v, .str text, .int num, rfl, ft, fm, e7, (al6.same s7).mono (by omega), fun H8 s8 => ⟨_, rfl, iteD rfl ?_⟩⟩⟩
  refine ⟨_, rfl, _, rfl, _, rfl, v, .str text, .int num, rfl, fun p9 H9 s9 n9 e9 => ⟨_, rfl, _, rfl, _, rfl, p9, v, .str text, .int num, rfl, ft, fm, e9, (((al6.same s7).same s8).same s9).mono (by omega), fun H10 s10 => ⟨_, rfl, iteD rfl ?_⟩⟩⟩
  have al10 := (((al6.same s7).same s8).same s9).same s10
  refine ⟨_, rfl, z1, fun q11 n11 => ?_⟩
  have s11 := same_new n11 (.lst [v])
  have e11 : (upd H10 q11 (.lst [v])) q11 = some (.lst [v]) := upd_same
  generalize upd H10 q11 (.lst [v]) = H11 at s11 e11
  refine ⟨_, rfl, _, rfl, _, rfl, .ref q11, .str text, .int num, rfl, fun p12 H12 s12 n12 e12 => ?_⟩
  have eq12 := s12 _ _ e11
  have np : p12 ≠ q11 := fun z => by rw [z, e11] at n12; cases n12
  refine ⟨_, rfl, .inl ⟨rfl, _, SqL.of eq12⟩, _, rfl, q11, [v], v, rfl, rfl, eq12, (by show 1 < sizeLine; decide), ?_⟩
  have e13 := e12.set (ys := [v] ++ [v]) eq12 np
  have al13 : Al (upd H12 q11 (.lst ([v] ++ [v]))) 4 v v := al10.same fun b o z => by
    have bq : b ≠ q11 := fun y => by rw [y, n11] at z; cases z
    rw [upd_ne bq]
    exact s12 _ _ (s11 _ _ z)
  have eq13 : (upd H12 q11 (.lst ([v] ++ [v]))) q11 = some (.lst [v, v]) := upd_same
  exact ⟨_, rfl, _, rfl, _, rfl, _, rfl, p12, .ref q11, .str text, .int num, rfl, ft, fm, e13, al_one eq13 al13, fun H14 _ => q H14⟩
end
end Mv
/-! From what the written part says of a class to what a call of it makes. -/
namespace MvX
open PySem PySem.W PySem.Calls PyProof.Rows
abbrev n1 (f : Str) : List (Str × NameKind) := [("self", .local), (f, .local), ("__class__", .free), ("super", .globalImplicit)]
abbrev n2 (f g : Str) : List (Str × NameKind) := [("self", .local), (f, .local), (g, .local), ("__class__", .free), ("super", .globalImplicit)]
/-- what is asked of a field's name -/
structure OkF (f : Str) : Prop where
  sf : (("self" : Str) == f) = false
  fs : (f == ("self" : Str)) = false
  ksup : (n1 f).lookup ("super" : Str) = some .globalImplicit
  kcls : (n1 f).lookup ("__class__" : Str) = some .free
  kf : (n1 f).lookup f = some .local
  db : (f == ("__debug__" : Str)) = false
  bP : ∀ (s : Shared) (x v : Value) (qual : Str) (body : List Stmt) (sc : Scope) (p0 p1 : Pos) (doc pm : Value) (an : Option Addr) (cd ct : Value) (cc : Addr), BindsTo s (ksFn "__init__" qual (parsOf [arg0 "self" p0, arg0 f p1]) body sc .none .none doc pm an cd ct cc) ⟨[x, v], []⟩ [("self", x), (f, v)]
  bK : ∀ (s : Shared) (x v : Value) (qual : Str) (body : List Stmt) (sc : Scope) (p0 p1 : Pos) (doc pm : Value) (an : Option Addr) (cd ct : Value) (cc : Addr), BindsTo s (ksFn "__init__" qual (parsOf [arg0 "self" p0, arg0 f p1]) body sc .none .none doc pm an cd ct cc) ⟨[x], [(f, v)]⟩ [("self", x), (f, v)]
theorem okValue : OkF "value" := ⟨by decide +kernel, by decide +kernel, by decide +kernel, by decide +kernel, by decide +kernel, by decide +kernel, fun _ _ _ _ _ _ _ _ _ _ _ _ _ _ => .of_eq rfl, fun _ _ _ _ _ _ _ _ _ _ _ _ _ _ => .of_eq rfl⟩
theorem okPlace : OkF "place" := ⟨by decide +kernel, by decide +kernel, by decide +kernel, by decide +kernel, by decide +kernel, by decide +kernel, fun _ _ _ _ _ _ _ _ _ _ _ _ _ _ => .of_eq rfl, fun _ _ _ _ _ _ _ _ _ _ _ _ _ _ => .of_eq rfl⟩
theorem okWord : OkF "word" := ⟨by decide +kernel, by decide +kernel, by decide +kernel, by decide +kernel, by decide +kernel, by decide +kernel, fun _ _ _ _ _ _ _ _ _ _ _ _ _ _ => .of_eq rfl, fun _ _ _ _ _ _ _ _ _ _ _ _ _ _ => .of_eq rfl⟩
theorem okWhat : OkF "what" := ⟨by decide +kernel, by decide +kernel, by decide +kernel, by decide +kernel, by decide +kernel, by decide +kernel, fun _ _ _ _ _ _ _ _ _ _ _ _ _ _ => .of_eq rfl, fun _ _ _ _ _ _ _ _ _ _ _ _ _ _ => .of_eq rfl⟩
structure OkG (f g : Str) : Prop where
  fs : (f == ("self" : Str)) = false
  sf : (("self" : Str) == f) = false
  gs : (g == ("self" : Str)) = false
  sg : (("self" : Str) == g) = false
  fg : (f == g) = false
  gf : (g == f) = false
  ksup : (n2 f g).lookup ("super" : Str) = some .globalImplicit
  kcls : (n2 f g).lookup ("__class__" : Str) = some .free
  kf : (n2 f g).lookup f = some .local
  kg : (n2 f g).lookup g = some .local
  db : (f == ("__debug__" : Str)) = false
  db2 : (g == ("__debug__" : Str)) = false
  bP : ∀ (s : Shared) (x v u : Value) (qual : Str) (body : List Stmt) (sc : Scope) (p0 p1 p2 : Pos) (doc pm : Value) (an : Option Addr) (cd ct : Value) (cc : Addr), BindsTo s (ksFn "__init__" qual (parsOf [arg0 "self" p0, arg0 f p1, arg0 g p2]) body sc .none .none doc pm an cd ct cc) ⟨[x, v, u], []⟩ [("self", x), (f, v), (g, u)]
  bK : ∀ (s : Shared) (x v u : Value) (qual : Str) (body : List Stmt) (sc : Scope) (p0 p1 p2 : Pos) (doc pm : Value) (an : Option Addr) (cd ct : Value) (cc : Addr), BindsTo s (ksFn "__init__" qual (parsOf [arg0 "self" p0, arg0 f p1, arg0 g p2]) body sc .none .none doc pm an cd ct cc) ⟨[x], [(g, u), (f, v)]⟩ [("self", x), (f, v), (g, u)]
theorem okPart : OkG "part" "place" := ⟨by decide +kernel, by decide +kernel, by decide +kernel, by decide +kernel, by decide +kernel, by decide +kernel, by decide +kernel, by decide +kernel, by decide +kernel, by decide +kernel, by decide +kernel, by decide +kernel, fun _ _ _ _ _ _ _ _ _ _ _ _ _ _ _ _ => .of_eq rfl, fun _ _ _ _ _ _ _ _ _ _ _ _ _ _ _ _ => .of_eq rfl⟩
theorem okText : OkG "text" "at" := ⟨by decide +kernel, by decide +kernel, by decide +kernel, by decide +kernel, by decide +kernel, by decide +kernel, by decide +kernel, by decide +kernel, by decide +kernel, by decide +kernel, by decide +kernel, by decide +kernel, fun _ _ _ _ _ _ _ _ _ _ _ _ _ _ _ _ => .of_eq rfl, fun _ _ _ _ _ _ _ _ _ _ _ _ _ _ _ _ => .of_eq rfl⟩
theorem okLine : OkG "line" "at" := ⟨by decide +kernel, by decide +kernel, by decide +kernel, by decide +kernel, by decide +kernel, by decide +kernel, by decide +kernel, by decide +kernel, by decide +kernel, by decide +kernel, by decide +kernel, by decide +kernel, fun _ _ _ _ _ _ _ _ _ _ _ _ _ _ _ _ => .of_eq rfl, fun _ _ _ _ _ _ _ _ _ _ _ _ _ _ _ _ => .of_eq rfl⟩
end MvX

namespace Mv
open PySem PySem.Spec PyProof.Rows L2 MvX
/-- what all the classes share -/
structure Sh (P : Program) (K : PySem.W.Frag) (mg : Str → Option Value) : Prop where
  third : PySem.W.nsIn K PySem.cStatics "thirdparty.any" = some none
  nsup : mg "super" = none
  top : (P.main.scope.names.lookup ("super" : Str)).isSome = false
structure One (P : Program) (w : World) (K : PySem.W.Frag) (mg : Str → Option Value) (M C : Addr) (f : Str) : Prop where
  x : XF K M C
  p : Mkr P w K mg C 1 [] (fs1 f)
  k : Mkr P w K mg C 1 [f] (fs1 f)
  no : PySem.W.findIn K (.ref C) f = some none
structure Two (P : Program) (w : World) (K : PySem.W.Frag) (mg : Str → Option Value) (M C : Addr) (f g : Str) : Prop where
  x : XF K M C
  p : Mkr P w K mg C 2 [] (fs2 f g)
  k : Mkr P w K mg C 2 [g, f] (fs2r f g)
  no : PySem.W.findIn K (.ref C) f = some none
  no2 : PySem.W.findIn K (.ref C) g = some none
theorem rel_one {f : Str} {v : V} {u : Value} (r : RelV v u) (y : Str) : RelO ((fs1 f [v]).lookup y) (if y = f then some u else none) := by
  by_cases e : y = f
  · rw [if_pos e, e]
    show RelO (List.lookup f [(f, v)]) _
    rw [List.lookup_cons, beq_self_eq_true]
    exact r
  · rw [if_neg e]
    show RelO (List.lookup y [(f, v)]) _
    rw [List.lookup_cons, beq_false_of_ne e]
    trivial
theorem rel_two {f g : Str} {v v2 : V} {u u2 : Value} (r : RelV v u) (r2 : RelV v2 u2) (y : Str) : RelO (List.lookup y [(g, v2), (f, v)]) (if y = g then some u2 else if y = f then some u else none) := by
  by_cases e : y = g
  · rw [if_pos e, e, List.lookup_cons, beq_self_eq_true]
    exact r2
  · rw [if_neg e, List.lookup_cons, beq_false_of_ne e]
    exact rel_one r y
section
variable {P : Program} {w : World} {K : PySem.W.Frag} {mg : Str → Option Value} {M C fI cc cda : Addr} {qual : Str} {st : Stmt} {m : Str} {q0 q1 q2 q3 q4 q5 r0 r1 r2 r3 u0 u1 u2 u3 p0 p1 p2 : Pos}
variable {nm q : Str} {N : Addr} {bs : List Value} {sn : List Str} {sub : List Value} {ab : Bool} {col : Option Bool} {dd : Option Addr} {k0 k1 k2 k3 k5 : Option Value}
variable {oc doc pm ct ccl : Value} {od an cdd cld : Option Addr} {osl ccs csl : Array (Option Value)} {vs : Array Value} {file : Str} {tf : Tok} {cl : Value}
theorem refs_base (M : Addr) : HandSPX.refsVE [.ref M, .type "ValueError", .type "Exception", .type "BaseException", .type "object"] = true := by
  first
    | rfl
    | (simp [HandSPX.refsVE]; done)
    | (unfold HandSPX.refsVE; simp; decide +kernel)
theorem xf_mk (xL : K.lookup C = some (PySem.excClassObj nm q C N bs [.ref M, .type "ValueError", .type "Exception", .type "BaseException", .type "object"] true sn sub ab col dd k0 k1 k2 k3 k5 "ValueError.__new__"))
    (ga : PySem.W.findIn K (.ref C) "__getattribute__" = some (some (.builtin "BaseException.__getattribute__"))) (gg : PySem.W.findIn K (.ref C) "__getattr__" = some none) (dc : PySem.W.findIn K (.ref C) "__class__" = some (some (.builtin "object.__class__"))) (ty : PySem.W.typeIn K (.ref C) = some (.type "type")) : XF K M C := by
  refine ⟨?_, ga, gg, dc, ty⟩
  have hcl : PySem.W.clsIn K C = some { name := nm, bases := bs, mro := .ref C :: [.ref M, .type "ValueError", .type "Exception", .type "BaseException", .type "object"], ns := N, qualname := q, hasDict := true, slotNames := sn, subclasses := sub, abstract := ab, collection := col, hasDel := false } := by
    unfold PySem.W.clsIn; rw [xL] <;> rfl
  exact ⟨_, hcl, rfl, rfl⟩
theorem one_mk {f : Str} (O : OkF f) (S : Sh P K mg) (tx : defArgs st = parsOf [arg0 "self" p0, arg0 f p1] ∧ defBody st = [supS m q0 q1 q2 q3 q4 q5, setS f r0 r1 r2 r3] ∧ defScope st = scopeOf (n1 f))
    (hev : SupOn qual (scopeOf (n1 f)) fI cda cc m q0 q1 q2 q3 q4)
    (xL : K.lookup C = some (PySem.excClassObj nm q C N bs [.ref M, .type "ValueError", .type "Exception", .type "BaseException", .type "object"] true sn sub ab col dd k0 k1 k2 k3 k5 "ValueError.__new__"))
    (sa : PySem.W.findIn K (.ref C) "__setattr__" = some (some (.builtin "object.__setattr__"))) (ini : PySem.W.findIn K (.ref C) "__init__" = some (some (.ref fI))) (sup : PySem.W.ks_superIn K C C "__init__" = some (some (.builtin "ValueError.__init__")))
    (ga : PySem.W.findIn K (.ref C) "__getattribute__" = some (some (.builtin "BaseException.__getattribute__"))) (gg : PySem.W.findIn K (.ref C) "__getattr__" = some none) (dc : PySem.W.findIn K (.ref C) "__class__" = some (some (.builtin "object.__class__"))) (ty : PySem.W.typeIn K (.ref C) = some (.type "type"))
    (l1 : K.lookup fI = some ⟨oc, od, .func (PySem.W.ksFn "__init__" qual (defArgs st) (defBody st) (defScope st) .none .none doc pm an (.ref cda) ct cc), osl⟩) (c1 : PySem.W.codeIn K (.ref cda) qual = true) (tI : PySem.W.typeIn K (.ref fI) = some (.type "function"))
    (lc : K.lookup cda = some ⟨ccl, cdd, .fields vs, ccs⟩) (lv : vs[2]? = some (.str file tf)) (lf : ((P.main.file : Str) == file) = true) (lce : K.lookup cc = some ⟨cl, cld, .cell (some (.ref C)), csl⟩)
    (kp : PySem.W.keepIn K (.ref C) = true) (it : PySem.W.instIn K (.ref C) (.type "type") = some true) (no : PySem.W.findIn K (.ref C) f = some none) : One P w K mg M C f := by
  obtain ⟨t1, t2, t3⟩ := tx
  rw [t1, t2, t3] at l1
  have T : ClsTxt P K mg C fI cc cda qual (parsOf [arg0 "self" p0, arg0 f p1]) [supS m q0 q1 q2 q3 q4 q5, setS f r0 r1 r2 r3] (scopeOf (n1 f)) :=
    { cls := ⟨nm, q, N, bs, _, sn, sub, ab, col, dd, k0, k1, k2, k3, k5, xL, refs_base M⟩, sa := sa, ini := ini, sup := sup, third := S.third, nsup := S.nsup, fn := ⟨oc, od, doc, pm, an, ct, osl, l1, c1⟩, code := ⟨ccl, cdd, vs, ccs, file, tf, lc, lv, lf⟩, cell := ⟨cl, cld, csl, lce⟩, top := S.top }
  have ks : (n1 f).lookup ("self" : Str) = some .local := rfl
  have hcell : ∀ y ∈ n1 f, y.2 ≠ .cell := by simp
  have hloc : ∀ (x v : Value), ∀ y ∈ [(("self" : Str), x), (f, v)], (n1 f).lookup y.1 = some .local := fun x v y hy => by
    rcases List.mem_cons.mp hy with rfl | hy
    · exact ks
    · rw [List.mem_singleton.mp hy]
      exact O.kf
  have bself : ∀ (x v : Value), ([(("self" : Str), x), (f, v)].reverse).lookup ("self" : Str) = some x := fun x v => by
    show List.lookup ("self" : Str) [(f, v), ("self", x)] = _
    rw [List.lookup_cons, O.sf, List.lookup_cons, beq_self_eq_true]
  have bf : ∀ (x v : Value), ([(("self" : Str), x), (f, v)].reverse).lookup f = some v := fun x v => by
    show List.lookup f [(f, v), ("self", x)] = _
    rw [List.lookup_cons, beq_self_eq_true]
  refine ⟨xf_mk xL ga gg dc ty, ⟨fun us hl => ?_, kp⟩, ⟨fun us hl => ?_, kp⟩, no⟩
  · match us, hl with
    | [v], _ =>
      refine ⟨fun y => if y = f then some v else none, makes_by T it tI (by show 1 ≤ sizeLine; decide) fun A s mb x t0 R X hlim G Bn hsu hx hnx hroom hq => ?_, fun vs r y => ?_⟩
      · exact init_one T X hlim G Bn hsu hx hnx hroom no hev (fun fd ⟨_, _, _, _, e⟩ => by rw [e]; exact O.bP _ _ _ _ _ _ _ _ _ _ _ _ _ _) hcell (hloc _ _) (bself _ _) (bself _ _) (bf _ _) O.ksup O.kcls ks O.kf ks O.db hq
      · match vs, r with
        | [_], .cons a .nil => exact rel_one a y
  · match us, hl with
    | [v], _ =>
      refine ⟨fun y => if y = f then some v else none, makes_by T it tI (by show 0 ≤ sizeLine; decide) fun A s mb x t0 R X hlim G Bn hsu hx hnx hroom hq => ?_, fun vs r y => ?_⟩
      · exact init_one T X hlim G Bn hsu hx hnx hroom no hev (fun fd ⟨_, _, _, _, e⟩ => by rw [e]; exact O.bK _ _ _ _ _ _ _ _ _ _ _ _ _ _) hcell (hloc _ _) (bself _ _) (bself _ _) (bf _ _) O.ksup O.kcls ks O.kf ks O.db hq
      · match vs, r with
        | [_], .cons a .nil => exact rel_one a y
theorem two_mk {f g : Str} (O : OkG f g) (S : Sh P K mg) (tx : defArgs st = parsOf [arg0 "self" p0, arg0 f p1, arg0 g p2] ∧ defBody st = [supS m q0 q1 q2 q3 q4 q5, setS f r0 r1 r2 r3, setS g u0 u1 u2 u3] ∧ defScope st = scopeOf (n2 f g))
    (hev : SupOn qual (scopeOf (n2 f g)) fI cda cc m q0 q1 q2 q3 q4)
    (xL : K.lookup C = some (PySem.excClassObj nm q C N bs [.ref M, .type "ValueError", .type "Exception", .type "BaseException", .type "object"] true sn sub ab col dd k0 k1 k2 k3 k5 "ValueError.__new__"))
    (sa : PySem.W.findIn K (.ref C) "__setattr__" = some (some (.builtin "object.__setattr__"))) (ini : PySem.W.findIn K (.ref C) "__init__" = some (some (.ref fI))) (sup : PySem.W.ks_superIn K C C "__init__" = some (some (.builtin "ValueError.__init__")))
    (ga : PySem.W.findIn K (.ref C) "__getattribute__" = some (some (.builtin "BaseException.__getattribute__"))) (gg : PySem.W.findIn K (.ref C) "__getattr__" = some none) (dc : PySem.W.findIn K (.ref C) "__class__" = some (some (.builtin "object.__class__"))) (ty : PySem.W.typeIn K (.ref C) = some (.type "type"))
    (l1 : K.lookup fI = some ⟨oc, od, .func (PySem.W.ksFn "__init__" qual (defArgs st) (defBody st) (defScope st) .none .none doc pm an (.ref cda) ct cc), osl⟩) (c1 : PySem.W.codeIn K (.ref cda) qual = true) (tI : PySem.W.typeIn K (.ref fI) = some (.type "function"))
    (lc : K.lookup cda = some ⟨ccl, cdd, .fields vs, ccs⟩) (lv : vs[2]? = some (.str file tf)) (lf : ((P.main.file : Str) == file) = true) (lce : K.lookup cc = some ⟨cl, cld, .cell (some (.ref C)), csl⟩)
    (kp : PySem.W.keepIn K (.ref C) = true) (it : PySem.W.instIn K (.ref C) (.type "type") = some true) (no : PySem.W.findIn K (.ref C) f = some none) (no2 : PySem.W.findIn K (.ref C) g = some none) : Two P w K mg M C f g := by
  obtain ⟨t1, t2, t3⟩ := tx
  rw [t1, t2, t3] at l1
  have T : ClsTxt P K mg C fI cc cda qual (parsOf [arg0 "self" p0, arg0 f p1, arg0 g p2]) [supS m q0 q1 q2 q3 q4 q5, setS f r0 r1 r2 r3, setS g u0 u1 u2 u3] (scopeOf (n2 f g)) :=
    { cls := ⟨nm, q, N, bs, _, sn, sub, ab, col, dd, k0, k1, k2, k3, k5, xL, refs_base M⟩, sa := sa, ini := ini, sup := sup, third := S.third, nsup := S.nsup, fn := ⟨oc, od, doc, pm, an, ct, osl, l1, c1⟩, code := ⟨ccl, cdd, vs, ccs, file, tf, lc, lv, lf⟩, cell := ⟨cl, cld, csl, lce⟩, top := S.top }
  have ks : (n2 f g).lookup ("self" : Str) = some .local := rfl
  have hcell : ∀ y ∈ n2 f g, y.2 ≠ .cell := by simp
  have hloc : ∀ (x v u : Value), ∀ y ∈ [(("self" : Str), x), (f, v), (g, u)], (n2 f g).lookup y.1 = some .local := fun x v u y hy => by
    rcases List.mem_cons.mp hy with rfl | hy
    · exact ks
    · rcases List.mem_cons.mp hy with rfl | hy
      · exact O.kf
      · rw [List.mem_singleton.mp hy]
        exact O.kg
  have bself : ∀ (x v u : Value), ([(("self" : Str), x), (f, v), (g, u)].reverse).lookup ("self" : Str) = some x := fun x v u => by
    show List.lookup ("self" : Str) [(g, u), (f, v), ("self", x)] = _
    rw [List.lookup_cons, O.sg, List.lookup_cons, O.sf, List.lookup_cons, beq_self_eq_true]
  have bf : ∀ (x v u : Value), ([(("self" : Str), x), (f, v), (g, u)].reverse).lookup f = some v := fun x v u => by
    show List.lookup f [(g, u), (f, v), ("self", x)] = _
    rw [List.lookup_cons, O.fg, List.lookup_cons, beq_self_eq_true]
  have bg : ∀ (x v u : Value), ([(("self" : Str), x), (f, v), (g, u)].reverse).lookup g = some u := fun x v u => by
    show List.lookup g [(g, u), (f, v), ("self", x)] = _
    rw [List.lookup_cons, beq_self_eq_true]
  refine ⟨xf_mk xL ga gg dc ty, ⟨fun us hl => ?_, kp⟩, ⟨fun us hl => ?_, kp⟩, no, no2⟩
  · match us, hl with
    | [v, u], _ =>
      refine ⟨fun y => if y = g then some u else if y = f then some v else none, makes_by T it tI (by show 2 ≤ sizeLine; decide) fun A s mb x t0 R X hlim G Bn hsu hx hnx hroom hq => ?_, fun vs r y => ?_⟩
      · exact init_two T X hlim G Bn hsu hx hnx hroom no no2 hev (fun fd ⟨_, _, _, _, e⟩ => by rw [e]; exact O.bP _ _ _ _ _ _ _ _ _ _ _ _ _ _ _ _) hcell (hloc _ _ _) (bself _ _ _) (bself _ _ _) (bf _ _ _) (bg _ _ _) O.ksup O.kcls ks O.kf O.kg ks O.db O.db2 hq
      · match vs, r with
        | [_, _], .cons a (.cons b .nil) => exact rel_two a b y
  · match us, hl with
    | [u, v], _ =>
      refine ⟨fun y => if y = g then some u else if y = f then some v else none, makes_by T it tI (by show 0 ≤ sizeLine; decide) fun A s mb x t0 R X hlim G Bn hsu hx hnx hroom hq => ?_, fun vs r y => ?_⟩
      · exact init_two T X hlim G Bn hsu hx hnx hroom no no2 hev (fun fd ⟨_, _, _, _, e⟩ => by rw [e]; exact O.bK _ _ _ _ _ _ _ _ _ _ _ _ _ _ _ _) hcell (hloc _ _ _) (bself _ _ _) (bself _ _ _) (bf _ _ _) (bg _ _ _) O.ksup O.kcls ks O.kf O.kg ks O.db O.db2 hq
      · match vs, r with
        | [_, _], .cons b (.cons a .nil) => exact rel_two a b y
end
end Mv
/-! The program's top, joined. -/
namespace Mv
open PySem PySem.Spec PyProof.Rows L2 MvX
theorem sh_mk {P : Program} {K : PySem.W.Frag} {h : Heap} {mg : Str → Option Value} (X : K.In h) (G : h.Ns mainGlobals mg) (t : PySem.W.nsIn K PySem.cStatics "thirdparty.any" = some none) (z : PySem.W.nsIn K mainGlobals "super" = some none) (top : (P.main.scope.names.lookup ("super" : Str)).isSome = false) : Sh P K mg :=
  ⟨t, PySem.W.mg_none_of X G z, top⟩
def cfOf (l : List Addr) (k : Nat) : Addr := l.getD k 0
theorem cl17_mk {P : Program} {w : World} {K : PySem.W.Frag} {mg : Str → Option Value} {M C0 C1 C2 C3 C4 C5 C6 C7 C8 C9 C10 C11 C12 C13 C14 C15 C16 : Addr} (gM : mg "MoveError" = some (.ref M)) (gf : GF K M)
    (g0 : mg "InvalidNumber" = some (.ref C0)) (o0 : One P w K mg M C0 "value")
    (g1 : mg "InvalidCluster" = some (.ref C1)) (o1 : Two P w K mg M C1 "part" "place")
    (g2 : mg "InvalidWishes" = some (.ref C2)) (o2 : One P w K mg M C2 "value")
    (g3 : mg "InvalidPlacing" = some (.ref C3)) (o3 : One P w K mg M C3 "value")
    (g4 : mg "InvalidLot" = some (.ref C4)) (o4 : One P w K mg M C4 "value")
    (g5 : mg "InvalidMoves" = some (.ref C5)) (o5 : One P w K mg M C5 "value")
    (g6 : mg "InvalidPairs" = some (.ref C6)) (o6 : One P w K mg M C6 "value")
    (g7 : mg "InvalidPlan" = some (.ref C7)) (o7 : One P w K mg M C7 "value")
    (g8 : mg "InvalidOutcomes" = some (.ref C8)) (o8 : One P w K mg M C8 "value")
    (g9 : mg "InvalidJournal" = some (.ref C9)) (o9 : One P w K mg M C9 "place")
    (g10 : mg "InvalidText" = some (.ref C10)) (o10 : Two P w K mg M C10 "text" "at")
    (g11 : mg "InvalidLine" = some (.ref C11)) (o11 : Two P w K mg M C11 "line" "at")
    (g12 : mg "UnknownWord" = some (.ref C12)) (o12 : One P w K mg M C12 "word")
    (g13 : mg "TooMany" = some (.ref C13)) (o13 : One P w K mg M C13 "what")
    (g14 : mg "Undefined" = some (.ref C14)) (o14 : One P w K mg M C14 "what")
    (g15 : mg "NothingToUndo" = some (.ref C15)) (o15 : One P w K mg M C15 "word")
    (g16 : mg "InvalidDeed" = some (.ref C16)) (o16 : One P w K mg M C16 "value")
    (inj : ∀ i < 17, ∀ j < 17, cfOf [C0, C1, C2, C3, C4, C5, C6, C7, C8, C9, C10, C11, C12, C13, C14, C15, C16] i = cfOf [C0, C1, C2, C3, C4, C5, C6, C7, C8, C9, C10, C11, C12, C13, C14, C15, C16] j → i = j) (neM : ∀ i < 17, M ≠ cfOf [C0, C1, C2, C3, C4, C5, C6, C7, C8, C9, C10, C11, C12, C13, C14, C15, C16] i) : Cl17 P w K mg M (cfOf [C0, C1, C2, C3, C4, C5, C6, C7, C8, C9, C10, C11, C12, C13, C14, C15, C16]) where
  gM := gM
  g := fun k hk => match k, hk with
    | 0, _ => g0
    | 1, _ => g1
    | 2, _ => g2
    | 3, _ => g3
    | 4, _ => g4
    | 5, _ => g5
    | 6, _ => g6
    | 7, _ => g7
    | 8, _ => g8
    | 9, _ => g9
    | 10, _ => g10
    | 11, _ => g11
    | 12, _ => g12
    | 13, _ => g13
    | 14, _ => g14
    | 15, _ => g15
    | 16, _ => g16
    | k + 17, h => absurd h (by omega)
  xf := fun k hk => match k, hk with
    | 0, _ => o0.x
    | 1, _ => o1.x
    | 2, _ => o2.x
    | 3, _ => o3.x
    | 4, _ => o4.x
    | 5, _ => o5.x
    | 6, _ => o6.x
    | 7, _ => o7.x
    | 8, _ => o8.x
    | 9, _ => o9.x
    | 10, _ => o10.x
    | 11, _ => o11.x
    | 12, _ => o12.x
    | 13, _ => o13.x
    | 14, _ => o14.x
    | 15, _ => o15.x
    | 16, _ => o16.x
    | k + 17, h => absurd h (by omega)
  gf := gf
  inj := inj
  neM := neM
  one := fun k hk h2 => match k, hk, h2 with
    | 0, _, _ => ⟨o0.p, o0.k, o0.no⟩
    | 1, _, h2 => absurd h2 (by decide)
    | 2, _, _ => ⟨o2.p, o2.k, o2.no⟩
    | 3, _, _ => ⟨o3.p, o3.k, o3.no⟩
    | 4, _, _ => ⟨o4.p, o4.k, o4.no⟩
    | 5, _, _ => ⟨o5.p, o5.k, o5.no⟩
    | 6, _, _ => ⟨o6.p, o6.k, o6.no⟩
    | 7, _, _ => ⟨o7.p, o7.k, o7.no⟩
    | 8, _, _ => ⟨o8.p, o8.k, o8.no⟩
    | 9, _, _ => ⟨o9.p, o9.k, o9.no⟩
    | 10, _, h2 => absurd h2 (by decide)
    | 11, _, h2 => absurd h2 (by decide)
    | 12, _, _ => ⟨o12.p, o12.k, o12.no⟩
    | 13, _, _ => ⟨o13.p, o13.k, o13.no⟩
    | 14, _, _ => ⟨o14.p, o14.k, o14.no⟩
    | 15, _, _ => ⟨o15.p, o15.k, o15.no⟩
    | 16, _, _ => ⟨o16.p, o16.k, o16.no⟩
    | k + 17, h, _ => absurd h (by omega)
  two := fun k hk h2 => match k, hk, h2 with
    | 0, _, h2 => absurd h2 (by decide)
    | 1, _, _ => ⟨o1.p, o1.k, o1.no, o1.no2⟩
    | 2, _, h2 => absurd h2 (by decide)
    | 3, _, h2 => absurd h2 (by decide)
    | 4, _, h2 => absurd h2 (by decide)
    | 5, _, h2 => absurd h2 (by decide)
    | 6, _, h2 => absurd h2 (by decide)
    | 7, _, h2 => absurd h2 (by decide)
    | 8, _, h2 => absurd h2 (by decide)
    | 9, _, h2 => absurd h2 (by decide)
    | 10, _, _ => ⟨o10.p, o10.k, o10.no, o10.no2⟩
    | 11, _, _ => ⟨o11.p, o11.k, o11.no, o11.no2⟩
    | 12, _, h2 => absurd h2 (by decide)
    | 13, _, h2 => absurd h2 (by decide)
    | 14, _, h2 => absurd h2 (by decide)
    | 15, _, h2 => absurd h2 (by decide)
    | 16, _, h2 => absurd h2 (by decide)
    | k + 17, h, _ => absurd h (by omega)
theorem all_mk {P : Program} {w : World} {K : PySem.W.Frag} {h : Heap} {mg : Str → Option Value} {fa M fL C0 C1 C2 C3 C4 C5 C6 C7 C8 C9 C10 C11 C12 C13 C14 C15 C16 f0 f1 f2 f3 f4 f5 f6 f7 f8 f9 f10 : Addr} (X : K.In h) (G : h.Ns mainGlobals mg) (hfa : mg "law" = some (.ref fa))
    {od0 an0 od1 an1 od2 an2 od3 an3 od4 an4 od5 an5 od6 an6 od7 an7 od8 an8 od9 an9 od10 an10 od99 an99 : Option Addr} {sl0 sl1 sl2 sl3 sl4 sl5 sl6 sl7 sl8 sl9 sl10 sl99 : Array (Option Value)} {oc0 kV0 dc0 pm0 cd0 ct0 oc1 kV1 dc1 pm1 cd1 ct1 oc2 kV2 dc2 pm2 cd2 ct2 oc3 kV3 dc3 pm3 cd3 ct3 oc4 kV4 dc4 pm4 cd4 ct4 oc5 kV5 dc5 pm5 cd5 ct5 oc6 kV6 dc6 pm6 cd6 ct6 oc7 kV7 dc7 pm7 cd7 ct7 oc8 kV8 dc8 pm8 cd8 ct8 oc9 kV9 dc9 pm9 cd9 ct9 oc10 kV10 dc10 pm10 cd10 ct10 oc99 kV99 dc99 pm99 cd99 ct99 : Value}
    (a0 : PySem.W.nsIn K mainGlobals "_law_draws" = some (some (.ref f0))) (l0 : K.lookup f0 = some ⟨oc0, od0, .func (PySem.W.fnOf "_law_draws" "_law_draws" (defArgs sDraws) (defBody sDraws) (defScope sDraws) .none kV0 dc0 pm0 an0 cd0 ct0), sl0⟩) (c0 : PySem.W.codeIn K cd0 "_law_draws" = true) (k0 : PySem.W.keepIn K (.ref f0) = true)
    (a1 : PySem.W.nsIn K mainGlobals "_law_take" = some (some (.ref f1))) (l1 : K.lookup f1 = some ⟨oc1, od1, .func (PySem.W.fnOf "_law_take" "_law_take" (defArgs sTake) (defBody sTake) (defScope sTake) .none kV1 dc1 pm1 an1 cd1 ct1), sl1⟩) (c1 : PySem.W.codeIn K cd1 "_law_take" = true) (k1 : PySem.W.keepIn K (.ref f1) = true)
    (a2 : PySem.W.nsIn K mainGlobals "_law_like" = some (some (.ref f2))) (l2 : K.lookup f2 = some ⟨oc2, od2, .func (PySem.W.fnOf "_law_like" "_law_like" (defArgs sLike) (defBody sLike) (defScope sLike) .none kV2 dc2 pm2 an2 cd2 ct2), sl2⟩) (c2 : PySem.W.codeIn K cd2 "_law_like" = true) (k2 : PySem.W.keepIn K (.ref f2) = true)
    (a3 : PySem.W.nsIn K mainGlobals "_law_odd" = some (some (.ref f3))) (l3 : K.lookup f3 = some ⟨oc3, od3, .func (PySem.W.fnOf "_law_odd" "_law_odd" (defArgs sOdd) (defBody sOdd) (defScope sOdd) .none kV3 dc3 pm3 an3 cd3 ct3), sl3⟩) (c3 : PySem.W.codeIn K cd3 "_law_odd" = true) (k3 : PySem.W.keepIn K (.ref f3) = true)
    (a4 : PySem.W.nsIn K mainGlobals "_law_kinds" = some (some (.ref f4))) (l4 : K.lookup f4 = some ⟨oc4, od4, .func (PySem.W.fnOf "_law_kinds" "_law_kinds" (defArgs sKinds) (defBody sKinds) (defScope sKinds) .none kV4 dc4 pm4 an4 cd4 ct4), sl4⟩) (c4 : PySem.W.codeIn K cd4 "_law_kinds" = true) (k4 : PySem.W.keepIn K (.ref f4) = true)
    (a5 : PySem.W.nsIn K mainGlobals "_law_made" = some (some (.ref f5))) (l5 : K.lookup f5 = some ⟨oc5, od5, .func (PySem.W.fnOf "_law_made" "_law_made" (defArgs sMade) (defBody sMade) (defScope sMade) .none kV5 dc5 pm5 an5 cd5 ct5), sl5⟩) (c5 : PySem.W.codeIn K cd5 "_law_made" = true) (k5 : PySem.W.keepIn K (.ref f5) = true)
    (a6 : PySem.W.nsIn K mainGlobals "_law_named" = some (some (.ref f6))) (l6 : K.lookup f6 = some ⟨oc6, od6, .func (PySem.W.fnOf "_law_named" "_law_named" (defArgs sNamed) (defBody sNamed) (defScope sNamed) .none kV6 dc6 pm6 an6 cd6 ct6), sl6⟩) (c6 : PySem.W.codeIn K cd6 "_law_named" = true) (k6 : PySem.W.keepIn K (.ref f6) = true)
    (a7 : PySem.W.nsIn K mainGlobals "_law_kept" = some (some (.ref f7))) (l7 : K.lookup f7 = some ⟨oc7, od7, .func (PySem.W.fnOf "_law_kept" "_law_kept" (defArgs sKept) (defBody sKept) (defScope sKept) .none kV7 dc7 pm7 an7 cd7 ct7), sl7⟩) (c7 : PySem.W.codeIn K cd7 "_law_kept" = true) (k7 : PySem.W.keepIn K (.ref f7) = true)
    (a8 : PySem.W.nsIn K mainGlobals "_law_raise" = some (some (.ref f8))) (l8 : K.lookup f8 = some ⟨oc8, od8, .func (PySem.W.fnOf "_law_raise" "_law_raise" (defArgs sRaise) (defBody sRaise) (defScope sRaise) .none kV8 dc8 pm8 an8 cd8 ct8), sl8⟩) (c8 : PySem.W.codeIn K cd8 "_law_raise" = true) (k8 : PySem.W.keepIn K (.ref f8) = true)
    (a9 : PySem.W.nsIn K mainGlobals "_law_raised" = some (some (.ref f9))) (l9 : K.lookup f9 = some ⟨oc9, od9, .func (PySem.W.fnOf "_law_raised" "_law_raised" (defArgs sRaised) (defBody sRaised) (defScope sRaised) .none kV9 dc9 pm9 an9 cd9 ct9), sl9⟩) (c9 : PySem.W.codeIn K cd9 "_law_raised" = true) (k9 : PySem.W.keepIn K (.ref f9) = true)
    (a10 : PySem.W.nsIn K mainGlobals "_law_right" = some (some (.ref f10))) (l10 : K.lookup f10 = some ⟨oc10, od10, .func (PySem.W.fnOf "_law_right" "_law_right" (defArgs sRight) (defBody sRight) (defScope sRight) .none kV10 dc10 pm10 an10 cd10 ct10), sl10⟩) (c10 : PySem.W.codeIn K cd10 "_law_right" = true) (k10 : PySem.W.keepIn K (.ref f10) = true)
    (a99 : PySem.W.nsIn K mainGlobals "law" = some (some (.ref fL))) (l99 : K.lookup fL = some ⟨oc99, od99, .func (PySem.W.fnOf "law" "law" (defArgs sLaw) (defBody sLaw) (defScope sLaw) .none kV99 dc99 pm99 an99 cd99 ct99), sl99⟩) (c99 : PySem.W.codeIn K cd99 "law" = true) (k99 : PySem.W.keepIn K (.ref fL) = true)
    (z0 : PySem.W.nsIn K mainGlobals "abs" = some none)
    (z1 : PySem.W.nsIn K mainGlobals "int" = some none)
    (z2 : PySem.W.nsIn K mainGlobals "len" = some none)
    (z3 : PySem.W.nsIn K mainGlobals "range" = some none)
    (z4 : PySem.W.nsIn K mainGlobals "isinstance" = some none)
    (z5 : PySem.W.nsIn K mainGlobals "tuple" = some none)
    (z6 : PySem.W.nsIn K mainGlobals "list" = some none)
    (z7 : PySem.W.nsIn K mainGlobals "bool" = some none)
    (z8 : PySem.W.nsIn K mainGlobals "str" = some none)
    (z9 : PySem.W.nsIn K mainGlobals "ValueError" = some none)
    (gM : PySem.W.nsIn K mainGlobals "MoveError" = some (some (.ref M))) (gf : GF K M)
    (g0 : PySem.W.nsIn K mainGlobals "InvalidNumber" = some (some (.ref C0))) (o0 : One P w K mg M C0 "value")
    (g1 : PySem.W.nsIn K mainGlobals "InvalidCluster" = some (some (.ref C1))) (o1 : Two P w K mg M C1 "part" "place")
    (g2 : PySem.W.nsIn K mainGlobals "InvalidWishes" = some (some (.ref C2))) (o2 : One P w K mg M C2 "value")
    (g3 : PySem.W.nsIn K mainGlobals "InvalidPlacing" = some (some (.ref C3))) (o3 : One P w K mg M C3 "value")
    (g4 : PySem.W.nsIn K mainGlobals "InvalidLot" = some (some (.ref C4))) (o4 : One P w K mg M C4 "value")
    (g5 : PySem.W.nsIn K mainGlobals "InvalidMoves" = some (some (.ref C5))) (o5 : One P w K mg M C5 "value")
    (g6 : PySem.W.nsIn K mainGlobals "InvalidPairs" = some (some (.ref C6))) (o6 : One P w K mg M C6 "value")
    (g7 : PySem.W.nsIn K mainGlobals "InvalidPlan" = some (some (.ref C7))) (o7 : One P w K mg M C7 "value")
    (g8 : PySem.W.nsIn K mainGlobals "InvalidOutcomes" = some (some (.ref C8))) (o8 : One P w K mg M C8 "value")
    (g9 : PySem.W.nsIn K mainGlobals "InvalidJournal" = some (some (.ref C9))) (o9 : One P w K mg M C9 "place")
    (g10 : PySem.W.nsIn K mainGlobals "InvalidText" = some (some (.ref C10))) (o10 : Two P w K mg M C10 "text" "at")
    (g11 : PySem.W.nsIn K mainGlobals "InvalidLine" = some (some (.ref C11))) (o11 : Two P w K mg M C11 "line" "at")
    (g12 : PySem.W.nsIn K mainGlobals "UnknownWord" = some (some (.ref C12))) (o12 : One P w K mg M C12 "word")
    (g13 : PySem.W.nsIn K mainGlobals "TooMany" = some (some (.ref C13))) (o13 : One P w K mg M C13 "what")
    (g14 : PySem.W.nsIn K mainGlobals "Undefined" = some (some (.ref C14))) (o14 : One P w K mg M C14 "what")
    (g15 : PySem.W.nsIn K mainGlobals "NothingToUndo" = some (some (.ref C15))) (o15 : One P w K mg M C15 "word")
    (g16 : PySem.W.nsIn K mainGlobals "InvalidDeed" = some (some (.ref C16))) (o16 : One P w K mg M C16 "value")
    (inj : ∀ i < 17, ∀ j < 17, cfOf [C0, C1, C2, C3, C4, C5, C6, C7, C8, C9, C10, C11, C12, C13, C14, C15, C16] i = cfOf [C0, C1, C2, C3, C4, C5, C6, C7, C8, C9, C10, C11, C12, C13, C14, C15, C16] j → i = j) (neM : ∀ i < 17, M ≠ cfOf [C0, C1, C2, C3, C4, C5, C6, C7, C8, C9, C10, C11, C12, C13, C14, C15, C16] i) :
    ∃ fd : FuncData, (∀ (s : Shared) (v : Value), BindsTo s fd ⟨[v], []⟩ [("_law_script", v)]) ∧ ∀ base : Heap, K.In base → base.Ns mainGlobals mg → FnOk P w K mg base CX0 10 fa fd ["_law_script"] (spLaw K) := by
  have e := hfa.symm.trans (PySem.W.mg_of X G a99)
  cases e
  have T : Cl17 P w K mg M (cfOf [C0, C1, C2, C3, C4, C5, C6, C7, C8, C9, C10, C11, C12, C13, C14, C15, C16]) := cl17_mk (PySem.W.mg_of X G gM) gf (PySem.W.mg_of X G g0) o0 (PySem.W.mg_of X G g1) o1 (PySem.W.mg_of X G g2) o2 (PySem.W.mg_of X G g3) o3 (PySem.W.mg_of X G g4) o4 (PySem.W.mg_of X G g5) o5 (PySem.W.mg_of X G g6) o6 (PySem.W.mg_of X G g7) o7 (PySem.W.mg_of X G g8) o8 (PySem.W.mg_of X G g9) o9 (PySem.W.mg_of X G g10) o10 (PySem.W.mg_of X G g11) o11 (PySem.W.mg_of X G g12) o12 (PySem.W.mg_of X G g13) o13 (PySem.W.mg_of X G g14) o14 (PySem.W.mg_of X G g15) o15 (PySem.W.mg_of X G g16) o16 inj neM
  have B : Blt mg := ⟨PySem.W.mg_none_of X G z0, PySem.W.mg_none_of X G z1, PySem.W.mg_none_of X G z2, PySem.W.mg_none_of X G z3, PySem.W.mg_none_of X G z4, PySem.W.mg_none_of X G z5, PySem.W.mg_none_of X G z6, PySem.W.mg_none_of X G z7, PySem.W.mg_none_of X G z8, PySem.W.mg_none_of X G z9⟩
  have F0 := fun_mk (st := sDraws) l0 c0 k0
  have b0 := F0.binds (ps := ["_law_script", "_law_many"]) fun _ _ _ _ _ _ us hl => match us, hl with | [_, _], _ => rfl
  have m0 := PySem.W.mg_of X G a0
  have F1 := fun_mk (st := sTake) l1 c1 k1
  have b1 := F1.binds (ps := ["_law_hand", "_law_many"]) fun _ _ _ _ _ _ us hl => match us, hl with | [_, _], _ => rfl
  have m1 := PySem.W.mg_of X G a1
  have F2 := fun_mk (st := sLike) l2 c2 k2
  have b2 := F2.binds (ps := ["_law_found", "_law_due"]) fun _ _ _ _ _ _ us hl => match us, hl with | [_, _], _ => rfl
  have m2 := PySem.W.mg_of X G a2
  have F3 := fun_mk (st := sOdd) l3 c3 k3
  have b3 := F3.binds (ps := ["_law_hand", "_law_depth"]) fun _ _ _ _ _ _ us hl => match us, hl with | [_, _], _ => rfl
  have m3 := PySem.W.mg_of X G a3
  have F4 := fun_mk (st := sKinds) l4 c4 k4
  have b4 := F4.binds (ps := ["_law_e"]) fun _ _ _ _ _ _ us hl => match us, hl with | [_], _ => rfl
  have m4 := PySem.W.mg_of X G a4
  have F5 := fun_mk (st := sMade) l5 c5 k5
  have b5 := F5.binds (ps := ["_law_one", "_law_text", "_law_number"]) fun _ _ _ _ _ _ us hl => match us, hl with | [_, _, _], _ => rfl
  have m5 := PySem.W.mg_of X G a5
  have F6 := fun_mk (st := sNamed) l6 c6 k6
  have b6 := F6.binds (ps := ["_law_one", "_law_text", "_law_number"]) fun _ _ _ _ _ _ us hl => match us, hl with | [_, _, _], _ => rfl
  have m6 := PySem.W.mg_of X G a6
  have F7 := fun_mk (st := sKept) l7 c7 k7
  have b7 := F7.binds (ps := ["_law_e"]) fun _ _ _ _ _ _ us hl => match us, hl with | [_], _ => rfl
  have m7 := PySem.W.mg_of X G a7
  have F8 := fun_mk (st := sRaise) l8 c8 k8
  have b8 := F8.binds (ps := ["_law_k", "_law_one", "_law_text", "_law_number"]) fun _ _ _ _ _ _ us hl => match us, hl with | [_, _, _, _], _ => rfl
  have m8 := PySem.W.mg_of X G a8
  have F9 := fun_mk (st := sRaised) l9 c9 k9
  have b9 := F9.binds (ps := ["_law_k", "_law_one", "_law_text", "_law_number"]) fun _ _ _ _ _ _ us hl => match us, hl with | [_, _, _, _], _ => rfl
  have m9 := PySem.W.mg_of X G a9
  have F10 := fun_mk (st := sRight) l10 c10 k10
  have b10 := F10.binds (ps := ["_law_errors", "_law_one", "_law_text", "_law_number"]) fun _ _ _ _ _ _ us hl => match us, hl with | [_, _, _, _], _ => rfl
  have m10 := PySem.W.mg_of X G a10
  have F99 := fun_mk (st := sLaw) l99 c99 k99
  refine ⟨PySem.W.fnOf "law" "law" (defArgs sLaw) (defBody sLaw) (defScope sLaw) .none kV99 dc99 pm99 an99 cd99 ct99, fun s v => .of_eq rfl, fun base _ _ => ?_⟩
  have GD := ok_draws (P := P) (w := w) (base := base) F0 B
  have GT := ok_take (P := P) (w := w) (base := base) F1 B
  have GL := ok_like (P := P) (w := w) (base := base) F2 B m2 b2 8
  have GO := ok_odd (P := P) (w := w) (base := base) F3 B m3 b3 GT k1 m1 b1 4
  have GK := ok_kinds (base := base) T B F4
  have GKP := ok_kindsP (base := base) T B F4
  have GM := ok_made (base := base) T F5
  have GN := ok_named (base := base) T F6
  have GE := ok_kept (base := base) T F7
  have GR := ok_raise (base := base) T F8
  have GRD := ok_raised (base := base) T F9 GR k8 m8 b8 GKP k4 m4 b4
  have GRI := ok_right (base := base) T B 5 F10 GK k4 m4 b4 GRD k9 m9 b9 GL k2 m2 b2 GE k7 m7 b7
  exact ok_law B F99 GD k0 m0 b0 GT k1 m1 b1 GO k3 m3 b3 GRI k10 m10 b10 GM k5 m5 b5 GN k6 m6 b6
end Mv
open PySem PySem.W PyProof.Rows
set_option maxRecDepth 100000 in
set_option maxHeartbeats 0 in
theorem PySem.Challenge.cw_movedwhole_k01_errors_holds : PySem.Challenge.rw_movedwhole_k01_errors.Holds := by
  w_on; o_law; k_head; (case hw => w_witness2)
  k_fill
  refine L2.walk_of (l := PySem.Challenge.rw_movedwhole_k01_errors) (n := 63) (k := 10) (x := "_law_script") (CX := fun _ => L2.CX0) (sp := ?mvsp) rfl (by decide) rfl ⟨rfl, by decide, by decide⟩ (fun w h Y => PySem.W.kIn_of Y) ?mvF ?mvA fun _ _ _ _ _ z => z
  case mvF =>
    intro w mg fa h KX G hmg
    have S := Mv.sh_mk (P := PySem.Challenge.rw_movedwhole_k01_errors.prog) KX G (by k_is) (by k_is) (by decide +kernel)
    refine' Mv.all_mk KX G hmg ?mva0 ?mvl0 ?mvc0 ?mvk0 ?mva1 ?mvl1 ?mvc1 ?mvk1 ?mva2 ?mvl2 ?mvc2 ?mvk2 ?mva3 ?mvl3 ?mvc3 ?mvk3 ?mva4 ?mvl4 ?mvc4 ?mvk4 ?mva5 ?mvl5 ?mvc5 ?mvk5 ?mva6 ?mvl6 ?mvc6 ?mvk6 ?mva7 ?mvl7 ?mvc7 ?mvk7 ?mva8 ?mvl8 ?mvc8 ?mvk8 ?mva9 ?mvl9 ?mvc9 ?mvk9 ?mva10 ?mvl10 ?mvc10 ?mvk10 ?mva99 ?mvl99 ?mvc99 ?mvk99 ?mvz0 ?mvz1 ?mvz2 ?mvz3 ?mvz4 ?mvz5 ?mvz6 ?mvz7 ?mvz8 ?mvz9 ?mvgM ?mvgf ?mvg0 ?mvo0 ?mvg1 ?mvo1 ?mvg2 ?mvo2 ?mvg3 ?mvo3 ?mvg4 ?mvo4 ?mvg5 ?mvo5 ?mvg6 ?mvo6 ?mvg7 ?mvo7 ?mvg8 ?mvo8 ?mvg9 ?mvo9 ?mvg10 ?mvo10 ?mvg11 ?mvo11 ?mvg12 ?mvo12 ?mvg13 ?mvo13 ?mvg14 ?mvo14 ?mvg15 ?mvo15 ?mvg16 ?mvo16 ?mvinj ?mvneM
    (case mva0 => k_is); (case mvl0 => k_is); (case mvc0 => k_is); (case mvk0 => k_is)
    (case mva1 => k_is); (case mvl1 => k_is); (case mvc1 => k_is); (case mvk1 => k_is)
    (case mva2 => k_is); (case mvl2 => k_is); (case mvc2 => k_is); (case mvk2 => k_is)
    (case mva3 => k_is); (case mvl3 => k_is); (case mvc3 => k_is); (case mvk3 => k_is)
    (case mva4 => k_is); (case mvl4 => k_is); (case mvc4 => k_is); (case mvk4 => k_is)
    (case mva5 => k_is); (case mvl5 => k_is); (case mvc5 => k_is); (case mvk5 => k_is)
    (case mva6 => k_is); (case mvl6 => k_is); (case mvc6 => k_is); (case mvk6 => k_is)
    (case mva7 => k_is); (case mvl7 => k_is); (case mvc7 => k_is); (case mvk7 => k_is)
    (case mva8 => k_is); (case mvl8 => k_is); (case mvc8 => k_is); (case mvk8 => k_is)
    (case mva9 => k_is); (case mvl9 => k_is); (case mvc9 => k_is); (case mvk9 => k_is)
    (case mva10 => k_is); (case mvl10 => k_is); (case mvc10 => k_is); (case mvk10 => k_is)
    (case mva99 => k_is); (case mvl99 => k_is); (case mvc99 => k_is); (case mvk99 => k_is)
    (case mvz0 => k_is); (case mvz1 => k_is); (case mvz2 => k_is); (case mvz3 => k_is); (case mvz4 => k_is); (case mvz5 => k_is); (case mvz6 => k_is); (case mvz7 => k_is); (case mvz8 => k_is); (case mvz9 => k_is)
    (case mvgM => k_is)
    (case mvgf => (refine' Mv.GF.mk ?mvgfsp ?mvgftk ?mvgfcl ?mvgfty ?mvgfex; (case mvgfsp => k_is); (case mvgftk => k_is); (case mvgfcl => exact show PySem.W.isClsIn _ _ = true by k_is); (case mvgfty => k_is); (case mvgfex => k_is)))
    (case mvg0 => k_is)
    (case mvg1 => k_is)
    (case mvg2 => k_is)
    (case mvg3 => k_is)
    (case mvg4 => k_is)
    (case mvg5 => k_is)
    (case mvg6 => k_is)
    (case mvg7 => k_is)
    (case mvg8 => k_is)
    (case mvg9 => k_is)
    (case mvg10 => k_is)
    (case mvg11 => k_is)
    (case mvg12 => k_is)
    (case mvg13 => k_is)
    (case mvg14 => k_is)
    (case mvg15 => k_is)
    (case mvg16 => k_is)
    (case mvo0 => (refine' Mv.one_mk (st := L2.inClass (Mv.topS 2) 0) (qual := "InvalidNumber.__init__") MvX.okValue S ?mvo0qtx ?mvo0qhev ?mvo0qxL ?mvo0qsa ?mvo0qini ?mvo0qsup ?mvo0qga ?mvo0qgg ?mvo0qdc ?mvo0qty ?mvo0ql1 ?mvo0qc1 ?mvo0qtI ?mvo0qlc ?mvo0qlv ?mvo0qlf ?mvo0qlce ?mvo0qkp ?mvo0qit ?mvo0qno; (case mvo0qtx => exact ⟨rfl, rfl, rfl⟩); (case mvo0qxL => k_is); (case mvo0qsa => k_is); (case mvo0qini => k_is); (case mvo0qsup => ks_is); (case mvo0qga => k_is); (case mvo0qgg => k_is); (case mvo0qdc => k_is); (case mvo0qty => k_is); (case mvo0ql1 => k_is); (case mvo0qc1 => k_is); (case mvo0qtI => k_is); (case mvo0qlc => k_is); (case mvo0qlv => rfl); (case mvo0qlf => decide +kernel); (case mvo0qlce => k_is); (case mvo0qkp => k_is); (case mvo0qit => k_is); (case mvo0qno => k_is); (case mvo0qhev => exact fun _ => ⟨_, rfl⟩)))
    (case mvo1 => (refine' Mv.two_mk (st := L2.inClass (Mv.topS 3) 0) (qual := "InvalidCluster.__init__") MvX.okPart S ?mvo1qtx ?mvo1qhev ?mvo1qxL ?mvo1qsa ?mvo1qini ?mvo1qsup ?mvo1qga ?mvo1qgg ?mvo1qdc ?mvo1qty ?mvo1ql1 ?mvo1qc1 ?mvo1qtI ?mvo1qlc ?mvo1qlv ?mvo1qlf ?mvo1qlce ?mvo1qkp ?mvo1qit ?mvo1qno ?mvo1qno2; (case mvo1qtx => exact ⟨rfl, rfl, rfl⟩); (case mvo1qxL => k_is); (case mvo1qsa => k_is); (case mvo1qini => k_is); (case mvo1qsup => ks_is); (case mvo1qga => k_is); (case mvo1qgg => k_is); (case mvo1qdc => k_is); (case mvo1qty => k_is); (case mvo1ql1 => k_is); (case mvo1qc1 => k_is); (case mvo1qtI => k_is); (case mvo1qlc => k_is); (case mvo1qlv => rfl); (case mvo1qlf => decide +kernel); (case mvo1qlce => k_is); (case mvo1qkp => k_is); (case mvo1qit => k_is); (case mvo1qno => k_is); (case mvo1qno2 => k_is); (case mvo1qhev => exact fun _ => ⟨_, rfl⟩)))
    (case mvo2 => (refine' Mv.one_mk (st := L2.inClass (Mv.topS 4) 0) (qual := "InvalidWishes.__init__") MvX.okValue S ?mvo2qtx ?mvo2qhev ?mvo2qxL ?mvo2qsa ?mvo2qini ?mvo2qsup ?mvo2qga ?mvo2qgg ?mvo2qdc ?mvo2qty ?mvo2ql1 ?mvo2qc1 ?mvo2qtI ?mvo2qlc ?mvo2qlv ?mvo2qlf ?mvo2qlce ?mvo2qkp ?mvo2qit ?mvo2qno; (case mvo2qtx => exact ⟨rfl, rfl, rfl⟩); (case mvo2qxL => k_is); (case mvo2qsa => k_is); (case mvo2qini => k_is); (case mvo2qsup => ks_is); (case mvo2qga => k_is); (case mvo2qgg => k_is); (case mvo2qdc => k_is); (case mvo2qty => k_is); (case mvo2ql1 => k_is); (case mvo2qc1 => k_is); (case mvo2qtI => k_is); (case mvo2qlc => k_is); (case mvo2qlv => rfl); (case mvo2qlf => decide +kernel); (case mvo2qlce => k_is); (case mvo2qkp => k_is); (case mvo2qit => k_is); (case mvo2qno => k_is); (case mvo2qhev => exact fun _ => ⟨_, rfl⟩)))
    (case mvo3 => (refine' Mv.one_mk (st := L2.inClass (Mv.topS 5) 0) (qual := "InvalidPlacing.__init__") MvX.okValue S ?mvo3qtx ?mvo3qhev ?mvo3qxL ?mvo3qsa ?mvo3qini ?mvo3qsup ?mvo3qga ?mvo3qgg ?mvo3qdc ?mvo3qty ?mvo3ql1 ?mvo3qc1 ?mvo3qtI ?mvo3qlc ?mvo3qlv ?mvo3qlf ?mvo3qlce ?mvo3qkp ?mvo3qit ?mvo3qno; (case mvo3qtx => exact ⟨rfl, rfl, rfl⟩); (case mvo3qxL => k_is); (case mvo3qsa => k_is); (case mvo3qini => k_is); (case mvo3qsup => ks_is); (case mvo3qga => k_is); (case mvo3qgg => k_is); (case mvo3qdc => k_is); (case mvo3qty => k_is); (case mvo3ql1 => k_is); (case mvo3qc1 => k_is); (case mvo3qtI => k_is); (case mvo3qlc => k_is); (case mvo3qlv => rfl); (case mvo3qlf => decide +kernel); (case mvo3qlce => k_is); (case mvo3qkp => k_is); (case mvo3qit => k_is); (case mvo3qno => k_is); (case mvo3qhev => exact fun _ => ⟨_, rfl⟩)))
    (case mvo4 => (refine' Mv.one_mk (st := L2.inClass (Mv.topS 6) 0) (qual := "InvalidLot.__init__") MvX.okValue S ?mvo4qtx ?mvo4qhev ?mvo4qxL ?mvo4qsa ?mvo4qini ?mvo4qsup ?mvo4qga ?mvo4qgg ?mvo4qdc ?mvo4qty ?mvo4ql1 ?mvo4qc1 ?mvo4qtI ?mvo4qlc ?mvo4qlv ?mvo4qlf ?mvo4qlce ?mvo4qkp ?mvo4qit ?mvo4qno; (case mvo4qtx => exact ⟨rfl, rfl, rfl⟩); (case mvo4qxL => k_is); (case mvo4qsa => k_is); (case mvo4qini => k_is); (case mvo4qsup => ks_is); (case mvo4qga => k_is); (case mvo4qgg => k_is); (case mvo4qdc => k_is); (case mvo4qty => k_is); (case mvo4ql1 => k_is); (case mvo4qc1 => k_is); (case mvo4qtI => k_is); (case mvo4qlc => k_is); (case mvo4qlv => rfl); (case mvo4qlf => decide +kernel); (case mvo4qlce => k_is); (case mvo4qkp => k_is); (case mvo4qit => k_is); (case mvo4qno => k_is); (case mvo4qhev => exact fun _ => ⟨_, rfl⟩)))
    (case mvo5 => (refine' Mv.one_mk (st := L2.inClass (Mv.topS 7) 0) (qual := "InvalidMoves.__init__") MvX.okValue S ?mvo5qtx ?mvo5qhev ?mvo5qxL ?mvo5qsa ?mvo5qini ?mvo5qsup ?mvo5qga ?mvo5qgg ?mvo5qdc ?mvo5qty ?mvo5ql1 ?mvo5qc1 ?mvo5qtI ?mvo5qlc ?mvo5qlv ?mvo5qlf ?mvo5qlce ?mvo5qkp ?mvo5qit ?mvo5qno; (case mvo5qtx => exact ⟨rfl, rfl, rfl⟩); (case mvo5qxL => k_is); (case mvo5qsa => k_is); (case mvo5qini => k_is); (case mvo5qsup => ks_is); (case mvo5qga => k_is); (case mvo5qgg => k_is); (case mvo5qdc => k_is); (case mvo5qty => k_is); (case mvo5ql1 => k_is); (case mvo5qc1 => k_is); (case mvo5qtI => k_is); (case mvo5qlc => k_is); (case mvo5qlv => rfl); (case mvo5qlf => decide +kernel); (case mvo5qlce => k_is); (case mvo5qkp => k_is); (case mvo5qit => k_is); (case mvo5qno => k_is); (case mvo5qhev => exact fun _ => ⟨_, rfl⟩)))
    (case mvo6 => (refine' Mv.one_mk (st := L2.inClass (Mv.topS 8) 0) (qual := "InvalidPairs.__init__") MvX.okValue S ?mvo6qtx ?mvo6qhev ?mvo6qxL ?mvo6qsa ?mvo6qini ?mvo6qsup ?mvo6qga ?mvo6qgg ?mvo6qdc ?mvo6qty ?mvo6ql1 ?mvo6qc1 ?mvo6qtI ?mvo6qlc ?mvo6qlv ?mvo6qlf ?mvo6qlce ?mvo6qkp ?mvo6qit ?mvo6qno; (case mvo6qtx => exact ⟨rfl, rfl, rfl⟩); (case mvo6qxL => k_is); (case mvo6qsa => k_is); (case mvo6qini => k_is); (case mvo6qsup => ks_is); (case mvo6qga => k_is); (case mvo6qgg => k_is); (case mvo6qdc => k_is); (case mvo6qty => k_is); (case mvo6ql1 => k_is); (case mvo6qc1 => k_is); (case mvo6qtI => k_is); (case mvo6qlc => k_is); (case mvo6qlv => rfl); (case mvo6qlf => decide +kernel); (case mvo6qlce => k_is); (case mvo6qkp => k_is); (case mvo6qit => k_is); (case mvo6qno => k_is); (case mvo6qhev => exact fun _ => ⟨_, rfl⟩)))
    (case mvo7 => (refine' Mv.one_mk (st := L2.inClass (Mv.topS 9) 0) (qual := "InvalidPlan.__init__") MvX.okValue S ?mvo7qtx ?mvo7qhev ?mvo7qxL ?mvo7qsa ?mvo7qini ?mvo7qsup ?mvo7qga ?mvo7qgg ?mvo7qdc ?mvo7qty ?mvo7ql1 ?mvo7qc1 ?mvo7qtI ?mvo7qlc ?mvo7qlv ?mvo7qlf ?mvo7qlce ?mvo7qkp ?mvo7qit ?mvo7qno; (case mvo7qtx => exact ⟨rfl, rfl, rfl⟩); (case mvo7qxL => k_is); (case mvo7qsa => k_is); (case mvo7qini => k_is); (case mvo7qsup => ks_is); (case mvo7qga => k_is); (case mvo7qgg => k_is); (case mvo7qdc => k_is); (case mvo7qty => k_is); (case mvo7ql1 => k_is); (case mvo7qc1 => k_is); (case mvo7qtI => k_is); (case mvo7qlc => k_is); (case mvo7qlv => rfl); (case mvo7qlf => decide +kernel); (case mvo7qlce => k_is); (case mvo7qkp => k_is); (case mvo7qit => k_is); (case mvo7qno => k_is); (case mvo7qhev => exact fun _ => ⟨_, rfl⟩)))
    (case mvo8 => (refine' Mv.one_mk (st := L2.inClass (Mv.topS 10) 0) (qual := "InvalidOutcomes.__init__") MvX.okValue S ?mvo8qtx ?mvo8qhev ?mvo8qxL ?mvo8qsa ?mvo8qini ?mvo8qsup ?mvo8qga ?mvo8qgg ?mvo8qdc ?mvo8qty ?mvo8ql1 ?mvo8qc1 ?mvo8qtI ?mvo8qlc ?mvo8qlv ?mvo8qlf ?mvo8qlce ?mvo8qkp ?mvo8qit ?mvo8qno; (case mvo8qtx => exact ⟨rfl, rfl, rfl⟩); (case mvo8qxL => k_is); (case mvo8qsa => k_is); (case mvo8qini => k_is); (case mvo8qsup => ks_is); (case mvo8qga => k_is); (case mvo8qgg => k_is); (case mvo8qdc => k_is); (case mvo8qty => k_is); (case mvo8ql1 => k_is); (case mvo8qc1 => k_is); (case mvo8qtI => k_is); (case mvo8qlc => k_is); (case mvo8qlv => rfl); (case mvo8qlf => decide +kernel); (case mvo8qlce => k_is); (case mvo8qkp => k_is); (case mvo8qit => k_is); (case mvo8qno => k_is); (case mvo8qhev => exact fun _ => ⟨_, rfl⟩)))
    (case mvo9 => (refine' Mv.one_mk (st := L2.inClass (Mv.topS 12) 0) (qual := "InvalidJournal.__init__") MvX.okPlace S ?mvo9qtx ?mvo9qhev ?mvo9qxL ?mvo9qsa ?mvo9qini ?mvo9qsup ?mvo9qga ?mvo9qgg ?mvo9qdc ?mvo9qty ?mvo9ql1 ?mvo9qc1 ?mvo9qtI ?mvo9qlc ?mvo9qlv ?mvo9qlf ?mvo9qlce ?mvo9qkp ?mvo9qit ?mvo9qno; (case mvo9qtx => exact ⟨rfl, rfl, rfl⟩); (case mvo9qxL => k_is); (case mvo9qsa => k_is); (case mvo9qini => k_is); (case mvo9qsup => ks_is); (case mvo9qga => k_is); (case mvo9qgg => k_is); (case mvo9qdc => k_is); (case mvo9qty => k_is); (case mvo9ql1 => k_is); (case mvo9qc1 => k_is); (case mvo9qtI => k_is); (case mvo9qlc => k_is); (case mvo9qlv => rfl); (case mvo9qlf => decide +kernel); (case mvo9qlce => k_is); (case mvo9qkp => k_is); (case mvo9qit => k_is); (case mvo9qno => k_is); (case mvo9qhev => exact fun _ => ⟨_, rfl⟩)))
    (case mvo10 => (refine' Mv.two_mk (st := L2.inClass (Mv.topS 13) 0) (qual := "InvalidText.__init__") MvX.okText S ?mvo10qtx ?mvo10qhev ?mvo10qxL ?mvo10qsa ?mvo10qini ?mvo10qsup ?mvo10qga ?mvo10qgg ?mvo10qdc ?mvo10qty ?mvo10ql1 ?mvo10qc1 ?mvo10qtI ?mvo10qlc ?mvo10qlv ?mvo10qlf ?mvo10qlce ?mvo10qkp ?mvo10qit ?mvo10qno ?mvo10qno2; (case mvo10qtx => exact ⟨rfl, rfl, rfl⟩); (case mvo10qxL => k_is); (case mvo10qsa => k_is); (case mvo10qini => k_is); (case mvo10qsup => ks_is); (case mvo10qga => k_is); (case mvo10qgg => k_is); (case mvo10qdc => k_is); (case mvo10qty => k_is); (case mvo10ql1 => k_is); (case mvo10qc1 => k_is); (case mvo10qtI => k_is); (case mvo10qlc => k_is); (case mvo10qlv => rfl); (case mvo10qlf => decide +kernel); (case mvo10qlce => k_is); (case mvo10qkp => k_is); (case mvo10qit => k_is); (case mvo10qno => k_is); (case mvo10qno2 => k_is); (case mvo10qhev => exact fun _ => ⟨_, rfl⟩)))
    (case mvo11 => (refine' Mv.two_mk (st := L2.inClass (Mv.topS 14) 0) (qual := "InvalidLine.__init__") MvX.okLine S ?mvo11qtx ?mvo11qhev ?mvo11qxL ?mvo11qsa ?mvo11qini ?mvo11qsup ?mvo11qga ?mvo11qgg ?mvo11qdc ?mvo11qty ?mvo11ql1 ?mvo11qc1 ?mvo11qtI ?mvo11qlc ?mvo11qlv ?mvo11qlf ?mvo11qlce ?mvo11qkp ?mvo11qit ?mvo11qno ?mvo11qno2; (case mvo11qtx => exact ⟨rfl, rfl, rfl⟩); (case mvo11qxL => k_is); (case mvo11qsa => k_is); (case mvo11qini => k_is); (case mvo11qsup => ks_is); (case mvo11qga => k_is); (case mvo11qgg => k_is); (case mvo11qdc => k_is); (case mvo11qty => k_is); (case mvo11ql1 => k_is); (case mvo11qc1 => k_is); (case mvo11qtI => k_is); (case mvo11qlc => k_is); (case mvo11qlv => rfl); (case mvo11qlf => decide +kernel); (case mvo11qlce => k_is); (case mvo11qkp => k_is); (case mvo11qit => k_is); (case mvo11qno => k_is); (case mvo11qno2 => k_is); (case mvo11qhev => exact fun _ => ⟨_, rfl⟩)))
    (case mvo12 => (refine' Mv.one_mk (st := L2.inClass (Mv.topS 15) 0) (qual := "UnknownWord.__init__") MvX.okWord S ?mvo12qtx ?mvo12qhev ?mvo12qxL ?mvo12qsa ?mvo12qini ?mvo12qsup ?mvo12qga ?mvo12qgg ?mvo12qdc ?mvo12qty ?mvo12ql1 ?mvo12qc1 ?mvo12qtI ?mvo12qlc ?mvo12qlv ?mvo12qlf ?mvo12qlce ?mvo12qkp ?mvo12qit ?mvo12qno; (case mvo12qtx => exact ⟨rfl, rfl, rfl⟩); (case mvo12qxL => k_is); (case mvo12qsa => k_is); (case mvo12qini => k_is); (case mvo12qsup => ks_is); (case mvo12qga => k_is); (case mvo12qgg => k_is); (case mvo12qdc => k_is); (case mvo12qty => k_is); (case mvo12ql1 => k_is); (case mvo12qc1 => k_is); (case mvo12qtI => k_is); (case mvo12qlc => k_is); (case mvo12qlv => rfl); (case mvo12qlf => decide +kernel); (case mvo12qlce => k_is); (case mvo12qkp => k_is); (case mvo12qit => k_is); (case mvo12qno => k_is); (case mvo12qhev => exact fun _ => ⟨_, rfl⟩)))
    (case mvo13 => (refine' Mv.one_mk (st := L2.inClass (Mv.topS 16) 0) (qual := "TooMany.__init__") MvX.okWhat S ?mvo13qtx ?mvo13qhev ?mvo13qxL ?mvo13qsa ?mvo13qini ?mvo13qsup ?mvo13qga ?mvo13qgg ?mvo13qdc ?mvo13qty ?mvo13ql1 ?mvo13qc1 ?mvo13qtI ?mvo13qlc ?mvo13qlv ?mvo13qlf ?mvo13qlce ?mvo13qkp ?mvo13qit ?mvo13qno; (case mvo13qtx => exact ⟨rfl, rfl, rfl⟩); (case mvo13qxL => k_is); (case mvo13qsa => k_is); (case mvo13qini => k_is); (case mvo13qsup => ks_is); (case mvo13qga => k_is); (case mvo13qgg => k_is); (case mvo13qdc => k_is); (case mvo13qty => k_is); (case mvo13ql1 => k_is); (case mvo13qc1 => k_is); (case mvo13qtI => k_is); (case mvo13qlc => k_is); (case mvo13qlv => rfl); (case mvo13qlf => decide +kernel); (case mvo13qlce => k_is); (case mvo13qkp => k_is); (case mvo13qit => k_is); (case mvo13qno => k_is); (case mvo13qhev => exact fun _ => ⟨_, rfl⟩)))
    (case mvo14 => (refine' Mv.one_mk (st := L2.inClass (Mv.topS 17) 0) (qual := "Undefined.__init__") MvX.okWhat S ?mvo14qtx ?mvo14qhev ?mvo14qxL ?mvo14qsa ?mvo14qini ?mvo14qsup ?mvo14qga ?mvo14qgg ?mvo14qdc ?mvo14qty ?mvo14ql1 ?mvo14qc1 ?mvo14qtI ?mvo14qlc ?mvo14qlv ?mvo14qlf ?mvo14qlce ?mvo14qkp ?mvo14qit ?mvo14qno; (case mvo14qtx => exact ⟨rfl, rfl, rfl⟩); (case mvo14qxL => k_is); (case mvo14qsa => k_is); (case mvo14qini => k_is); (case mvo14qsup => ks_is); (case mvo14qga => k_is); (case mvo14qgg => k_is); (case mvo14qdc => k_is); (case mvo14qty => k_is); (case mvo14ql1 => k_is); (case mvo14qc1 => k_is); (case mvo14qtI => k_is); (case mvo14qlc => k_is); (case mvo14qlv => rfl); (case mvo14qlf => decide +kernel); (case mvo14qlce => k_is); (case mvo14qkp => k_is); (case mvo14qit => k_is); (case mvo14qno => k_is); (case mvo14qhev => exact fun _ => ⟨_, rfl⟩)))
    (case mvo15 => (refine' Mv.one_mk (st := L2.inClass (Mv.topS 18) 0) (qual := "NothingToUndo.__init__") MvX.okWord S ?mvo15qtx ?mvo15qhev ?mvo15qxL ?mvo15qsa ?mvo15qini ?mvo15qsup ?mvo15qga ?mvo15qgg ?mvo15qdc ?mvo15qty ?mvo15ql1 ?mvo15qc1 ?mvo15qtI ?mvo15qlc ?mvo15qlv ?mvo15qlf ?mvo15qlce ?mvo15qkp ?mvo15qit ?mvo15qno; (case mvo15qtx => exact ⟨rfl, rfl, rfl⟩); (case mvo15qxL => k_is); (case mvo15qsa => k_is); (case mvo15qini => k_is); (case mvo15qsup => ks_is); (case mvo15qga => k_is); (case mvo15qgg => k_is); (case mvo15qdc => k_is); (case mvo15qty => k_is); (case mvo15ql1 => k_is); (case mvo15qc1 => k_is); (case mvo15qtI => k_is); (case mvo15qlc => k_is); (case mvo15qlv => rfl); (case mvo15qlf => decide +kernel); (case mvo15qlce => k_is); (case mvo15qkp => k_is); (case mvo15qit => k_is); (case mvo15qno => k_is); (case mvo15qhev => exact fun _ => ⟨_, rfl⟩)))
    (case mvo16 => (refine' Mv.one_mk (st := L2.inClass (Mv.topS 11) 0) (qual := "InvalidDeed.__init__") MvX.okValue S ?mvo16qtx ?mvo16qhev ?mvo16qxL ?mvo16qsa ?mvo16qini ?mvo16qsup ?mvo16qga ?mvo16qgg ?mvo16qdc ?mvo16qty ?mvo16ql1 ?mvo16qc1 ?mvo16qtI ?mvo16qlc ?mvo16qlv ?mvo16qlf ?mvo16qlce ?mvo16qkp ?mvo16qit ?mvo16qno; (case mvo16qtx => exact ⟨rfl, rfl, rfl⟩); (case mvo16qxL => k_is); (case mvo16qsa => k_is); (case mvo16qini => k_is); (case mvo16qsup => ks_is); (case mvo16qga => k_is); (case mvo16qgg => k_is); (case mvo16qdc => k_is); (case mvo16qty => k_is); (case mvo16ql1 => k_is); (case mvo16qc1 => k_is); (case mvo16qtI => k_is); (case mvo16qlc => k_is); (case mvo16qlv => rfl); (case mvo16qlf => decide +kernel); (case mvo16qlce => k_is); (case mvo16qkp => k_is); (case mvo16qit => k_is); (case mvo16qno => k_is); (case mvo16qhev => exact fun _ => ⟨_, rfl⟩)))
    (case mvinj => decide +kernel)
    (case mvneM => decide +kernel)
  case mvA => exact fun _ _ a ns hl _ hS => ⟨a, ns, rfl, hS, hl, fun _ => rfl⟩
