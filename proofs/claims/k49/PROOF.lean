import PyProof.Rows.All
import Wide.All
import OpenK.AllK
import Wide.FinOn
import PyProof.EqAt
import PyProof.EqKinds
import PyProof.TupleCall
import KE.KExcSuper
import HandS.ForMost
import HandS.Exc
import HandS.ExcOwn
import HandS.TryOnly
import HandS.ExcSuper
import KE.KIsAll
import KE.KTryMore
import KE.KExcIs
import HandS.Set
import HandS.Strs
import HandS.SetFor
import KE.KSuperObj
import PyProof.ReprRoads
import HandS.WordsExc
import HandS.Defaults
import HandS.DictComp
import HandS.Walk
import HandS.More
import HandS.TupSets
import HandS.SortInts
import HandS.IsInst
import KE.KEqDict
import PyProof.ReprBulk
import HandS.Sort
import KE.SortData
import HandS.Conv
import KE.DatumOrd
import HandS.DictTup
import HandS.Dict
import HandS.ListItems
import HandS.Zip
import HandS.TupAny
import KE.GoesEnum
import KE.GoesMore
import HandS.Style
import HandS.AnyAll
import PySem.Challenge.RW_keptwhole_k49_what_items_of_refs_mean
import HandS.Wide
import HandS.TupMul
import HandS.TupLen
set_option Elab.async false
set_option linter.all false
set_option maxRecDepth 100000
set_option maxHeartbeats 4000000
/-! Errors of the package: class X(KeepError) with __init__(self, f): super().__init__(msg); self.f = f. One theory for all of them (KeepError is a ValueError). -/
namespace PySem
namespace KwE
open PySem.W PySem.Calls PyProof.Rows PySem.HandSPX

/-! ### the text of such an __init__ -/
abbrev f : Str := "at"
def eA (p1 p2 : Pos) : Arguments :=
  { posonlyargs := [], args := [{ arg := "self", annotation := none, pos := p1 }, { arg := f, annotation := none, pos := p2 }], vararg := none, kwonlyargs := [], kw_defaults := [], kwarg := none, defaults := [] }
structure EPos where
  a1 : Pos
  a2 : Pos
  a3 : Pos
  a4 : Pos
  a5 : Pos
  a6 : Pos
  b1 : Pos
  b2 : Pos
  b3 : Pos
  b4 : Pos
def eB (msg : Str) (q : EPos) : List Stmt :=
  [.Expr (.Call (.Attribute (.Call (.Name "super" q.a1) [] [] q.a2) "__init__" q.a3) [.Constant (.str msg) 0 q.a4] [] q.a5) q.a6,
   .Assign [.Attribute (.Name "self" q.b1) f q.b2] (.Name f q.b3) q.b4]
def eS : Scope :=
  { kind := .function, names := [(PySem.Str.ofString "self", .local), (PySem.Str.ofString "at", .local), (PySem.Str.ofString "__class__", .free), (PySem.Str.ofString "super", .globalImplicit)], isGenerator := false, isCoroutine := false, more := [] }

/-- what the written part says of the error x at C, of its field f, of its __init__ at fI -/
structure ErrTxt (P : Program) (K : Frag) (mg : Str → Option Value) (x : Str) (C fI : Addr) : Prop where
  gC : mg x = some (.ref C)
  gS : mg "super" = none
  cls : ∃ nm q N bs bm sn sub ab col dd k0 k1 k2 k3 k5, K.lookup C = some (excClassObj nm q C N bs bm true sn sub ab col dd k0 k1 k2 k3 k5 "ValueError.__new__") ∧ refsVE bm = true ∧ alongIn K "__init__" bm = some (some (.builtin "ValueError.__init__"))
  sa : findIn K (.ref C) "__setattr__" = some (some (.builtin "object.__setattr__"))
  ga : findIn K (.ref C) "__getattribute__" = some (some (.builtin "BaseException.__getattribute__"))
  gg : findIn K (.ref C) "__getattr__" = some none
  noN : findIn K (.ref C) f = some none
  iC : findIn K (.ref C) "__init__" = some (some (.ref fI))
  tC : typeIn K (.ref fI) = some (.type "function")
  kC : keepIn K (.ref C) = true
  exC : subIn K (.ref C) (.type "BaseException") = some true
  veC : subIn K (.ref C) (.type "ValueError") = some true
  ownC : mroIn K C (.ref C) = some true
  tyC : typeIn K (.ref C) = some (.type "type")
  hdC : hasDictIn K C = true
  te : exmOne K (.ref C) (.ref C) = some true
  op : nsIn K cStatics "thirdparty.any" = some none
  top : (P.main.scope.names.lookup ("super" : Str)).isSome = false
  fn : ∃ (oc : Value) (od : Option Addr) (doc pm : Value) (an : Option Addr) (cda cc : Addr) (ct : Value) (osl : Array (Option Value)) (p1 p2 : Pos) (q : EPos) (msg qual : Str),
    K.lookup fI = some ⟨oc, od, .func (ksFn "__init__" qual (eA p1 p2) (eB msg q) eS .none .none doc pm an (.ref cda) ct cc), osl⟩ ∧ codeIn K (.ref cda) qual = true ∧
    (q.a3.endLine == q.a5.line) = true ∧ (∃ ccl cdd vs ccs file tf, K.lookup cda = some ⟨ccl, cdd, .fields vs, ccs⟩ ∧ vs[2]? = some (.str file tf) ∧ ((P.main.file : Str) == file) = true) ∧
    ∃ cl cld csl, K.lookup cc = some ⟨cl, cld, .cell (some (.ref C)), csl⟩

theorem one_size (v : Value) : [v].length ≤ sizeLine := by
  rw [sizeLine_eq]
  exact (by decide : 1 ≤ 16777216)
/-- what __init__ leaves of a fresh exception at x -/
structure InitEnd (h h' : Heap) (x C dx t1 : Addr) (v : Value) : Prop where
  keep : ∀ b o, b ≠ x → h.get? b = some o → h'.get? b = some o
  obj : h'.get? x = some { cls := .ref C, dict := some dx, data := .fields #[.ref t1, .none, .none, .none, .bool false, .none] }
  dbig : h.objs.size ≤ dx
  dne : dx ≠ x
  ns : h'.Ns1 dx (fun y => if y = f then some v else none)
/-- a made error -/
structure OwnMade (h h' : Heap) (e C d : Addr) (v : Value) : Prop where
  keep : ∀ b o, h.get? b = some o → h'.get? b = some o
  new : h.objs.size ≤ e
  obj : ∃ oe vs, h'.get? e = some oe ∧ oe.cls = .ref C ∧ oe.dict = some d ∧ oe.data = .fields vs ∧ vs[1]? = some .none
  dbig : h.objs.size ≤ d
  dne : d ≠ e
  ns : h'.Ns1 d (fun y => if y = f then some v else none)

section
variable {prog : Program} {w : World} {M : Model} {A : Around} {E : Value → Shared → Prop} {R : Result → Shared → Prop} {s : Shared} {K : Frag} {mg : Str → Option Value} {x : Str} {C fI : Addr}
theorem ldX {env : Env} {m : Str → Option Value} {y : Str} {pos : Pos} {v : Value} {Q : Value → Shared → Prop} (hn : s.heap.Ns env.locals m) (hv : m y = some v) (h : Q v s)
    (hk : env.scope.kind = .function) (hl : env.kindOf y = some .local) (hd : (y == ("__debug__" : Str)) = false) : wpAny M A (eval (.Name y pos) env) Q E s :=
  wpAny_Name (wpAny_loadName_local hk hl hn hv h) hd

theorem one_line {o : Expr} {name msg : Str} {apos pos p : Pos} {env : Env} (hp : (apos.endLine == pos.line) = true) :
    eval (.Call (.Attribute o name apos) [.Constant (.str msg) 0 p] [] pos) env = (do
      let ov ← attributeBase o name env (eval o env)
      standAt apos.atName
      let (f, first) ← holding [ov] (getMethod ov name (do return (← importBound o env).getD true))
      callWith pos f first (backTo pos (starEach [.Constant (.str msg) 0 p] env)) []) := by
  have e : methodCallPos true o env apos pos = pure pos := by
    unfold methodCallPos
    rw [hp]
    rfl
  show (do
      let ov ← attributeBase o name env (eval o env)
      standAt apos.atName
      methodCall o name apos pos env ov 1 (backTo pos (starEach [.Constant (.str msg) 0 p] env)) []) = _
  have m : ∀ ov, methodCall o name apos pos env ov 1 (backTo pos (starEach [.Constant (.str msg) 0 p] env)) [] = (do
      let (f, first) ← holding [ov] (getMethod ov name (do return (← importBound o env).getD true))
      callWith pos f first (backTo pos (starEach [.Constant (.str msg) 0 p] env)) []) := fun ov => by
    show (do
      let (f, first) ← holding [ov] (getMethod ov name (do return (← importBound o env).getD true))
      let callPos ← methodCallPos true o env apos pos
      callWith callPos f first (backTo pos (starEach [.Constant (.str msg) 0 p] env)) []) = _
    rw [e]
    simp only [pure_bind]
  simp only [m]

/-- the bound built-in __init__ called on a fresh exception -/
theorem call_mw {hp : Heap} {g : Array GenState} {d : Drawn} {t : Nat} {os : OsState} {u y t0 : Addr} {rest : List Value} {Q : Value → Shared → Prop}
    {nm q : Str} {N : Addr} {bs bm : List Value} {sn : List Str} {sub : List Value} {ab : Bool} {col : Option Bool} {dd : Option Addr} {k0 k1 k2 k3 k5 : Option Value}
    (hC : hp.get? C = some (excClassObj nm q C N bs bm true sn sub ab col dd k0 k1 k2 k3 k5 "ValueError.__new__")) (hu : hp.get? u = some (kxs_mw "ValueError.__init__" y))
    (he : hp.get? y = some (excO C t0)) (hz : rest.length ≤ sizeLine)
    (h : ∀ h' t1, (∀ b o, b ≠ y → hp.get? b = some o → h'.get? b = some o) → h'.get? y = some (excO C t1) → Q .none ⟨h', g, d, t, os⟩) :
    wpAny (model prog w) A (call (.ref u) rest) Q E ⟨hp, g, d, t, os⟩ := by
  refine wpAny_call (codeAny_of_tree ?_)
  show wpAny _ A.in1 (callAny (.ref u) ⟨rest, []⟩) _ _ _
  simp only [callAny]
  refine wpAny_bind (wpAny_load hu ?_)
  simp only [kxs_mw, show (Value.type "method-wrapper" == Value.type "method" || Value.type "method-wrapper" == Value.type "builtin_function_or_method" || Value.type "method-wrapper" == Value.type "method-wrapper") = true by decide, if_true]
  refine KFB.if_so (by decide) ?_
  refine wpAny_bind (check_bound_init F.excBase_ValueError.toExcCallFacts hC he rfl ?_)
  refine wpAny_bind (wpAny_pure (wpAny_pure ?_))
  refine ⟨plainId_quiet F.excBase_ValueError.init.plain _, codeAny_builtin F.excBase_ValueError.initEntry ?_⟩
  exact exc_init_tree (cls := .ref C) (t0 := t0) (dv := none) (c2 := .none) (c3 := .none) (b4 := .bool false) he hz fun h' k e' _ => h h' _ k e'

theorem eS_self : eS.names.lookup ("self" : Str) = some .local := by decide +kernel
theorem eS_f : eS.names.lookup f = some .local := by decide +kernel
theorem eS_class : eS.names.lookup ("__class__" : Str) = some .free := by decide +kernel
theorem eS_super : eS.names.lookup ("super" : Str) = some .globalImplicit := by decide +kernel

theorem err_init (T : ErrTxt prog K mg x C fI) {y t0 : Addr} {v : Value} (X : K.In s.heap) (hlim : s.heap.NoLimit) (hns : s.heap.Ns mainGlobals mg) {mb : Str → Option Value} (hb : s.heap.Ns builtinsNs mb) (hbs : mb "super" = some (.type "super"))
    (hx : s.heap.get? y = some (excO C t0)) (hnx : K.lookup y = none) (hroom : A.depth < recursionLimit)
    (hq : ∀ h' tk dx t1, InitEnd s.heap h' y C dx t1 v → R (.ok (.ret .none)) { s with heap := h', toks := tk }) :
    codeAny (model prog w) A (.call (.ref fI) ⟨[.ref y, v], []⟩) R s := by
  obtain ⟨oc, od, doc, pm, an, cda, cc, ct, osl, p1, p2, q, msg, qual, ho, hcd, hpos, ⟨ccl, cdd, vs, ccs, file, tf, hcode, hvs, hfile⟩, ⟨cl, cld, csl, hcell⟩⟩ := T.fn
  obtain ⟨nm, qn, N, bs, bm, sn, sub, ab, col, dd, k0, k1, k2, k3, k5, hC, hbm, hal⟩ := T.cls
  have hcl : clsIn K C = some { name := nm, bases := bs, mro := .ref C :: bm, ns := N, qualname := qn, hasDict := true, slotNames := sn, subclasses := sub, abstract := ab, collection := col, hasDel := false } := by unfold clsIn; rw [hC] <;> rfl
  have lself := eS_self
  have lf := eS_f
  have lcl := eS_class
  have lsu := eS_super
  refine ks_codeAny_call_defAt (fd := ksFn "__init__" qual (eA p1 p2) (eB msg q) eS .none .none doc pm an (.ref cda) ct cc) (body := eB msg q) (binds := [("self", .ref y), (f, v)]) hroom (X _ _ ho) rfl hlim (codeRec_of X hcd) rfl (BindsTo.of_eq (by first | rfl | with_unfolding_all rfl))
    (fun z hz => ?_) (fun z hz => ?_) (fun h₁ hn hk₁ => ?_)
  · have hz' : z ∈ [(PySem.Str.ofString "self", NameKind.local), (PySem.Str.ofString "at", .local), (PySem.Str.ofString "__class__", .free), (PySem.Str.ofString "super", .globalImplicit)] := hz
    simp only [List.mem_cons, List.not_mem_nil, or_false] at hz'
    rcases hz' with rfl | rfl | rfl | rfl <;> exact fun e => NameKind.noConfusion e
  · simp only [List.mem_cons, List.not_mem_nil, or_false] at hz
    rcases hz with rfl | rfl
    · exact lself
    · exact lf
  have bself : ([("self", Value.ref y), (f, v)] : List (Str × Value)).reverse.lookup ("self" : Str) = some (.ref y) := by
    rfl
  have bf : ([("self", Value.ref y), (f, v)] : List (Str × Value)).reverse.lookup f = some v := by
    rfl
  have hL := hn.lt
  have X₁ : K.In h₁ := X.keeps hk₁
  have hx₁ := hk₁ _ _ hx
  have hyC : y ≠ C := by
    rintro rfl
    have e := X _ _ hC
    rw [hx] at e
    cases e
  -- super().__init__(msg)
  show wpAt (model prog w) (A.deeper (ksEnv qual eS s.heap.objs.size fI (.ref cda) cc)) (.func (eB msg q) (ksEnv qual eS s.heap.objs.size fI (.ref cda) cc)) (execs (.Expr (.Call (.Attribute (.Call (.Name "super" q.a1) [] [] q.a2) "__init__" q.a3) [.Constant (.str msg) 0 q.a4] [] q.a5) q.a6 :: [.Assign [.Attribute (.Name "self" q.b1) f q.b2] (.Name f q.b3) q.b4]) (ksEnv qual eS s.heap.objs.size fI (.ref cda) cc)) _ _ _
  refine ks_wpAt_execs_cons (ks_wpAt_Expr_any (ks_wpAt_MethodCall ?_ (one_line hpos)) rfl rfl)
  refine ks_wpAt_super_base (env := ksEnv qual eS s.heap.objs.size fI (.ref cda) cc) lsu lcl (by decide +kernel) rfl (X₁ _ _ ho) rfl (ar := { arg := "self", annotation := none, pos := p1 }) rfl rfl (X₁ _ _ hcode) rfl hvs hfile T.top ?_
  refine ks_loadName_global rfl lsu (loadGlobal_builtin (env := ksEnv qual eS s.heap.objs.size fI (.ref cda) cc) (hns.keeps hk₁) T.gS (hb.keeps hk₁) hbs ⟨rfl, ?_⟩)
  refine wpAny_loadName_free rfl lcl rfl ⟨_, X₁ _ _ hcell, rfl⟩ ?_
  refine wpAny_loadName_local rfl lself hn bself ?_
  refine ks_wpAny_isType_cls (X₁ _ _ hC) rfl ⟨rfl, ?_⟩
  refine ks_wpAny_call_super (X₁ _ _ hC) rfl hx₁ rfl (fun c e => by cases e) (looks_mroIn X₁ T.ownC) (fun h₂ e₂ k₂ => ?_)
  have X₂ : K.In h₂ := X₁.keeps k₂
  have hx₂ := k₂ _ _ hx₁
  have I₂ : InstAt h₂ y (excO C t0) C none := ⟨hx₂, rfl, rfl, trivial⟩
  refine kxs_getMethod kxs_ValueError e₂ (looks_opaque X₂ T.op) (l₀ := .ref C :: bm) ?_ (PySem.ESX.drop_own C bm) X₂ hal (I₂.type.andThen (looks_subIn X₂ T.veC)) hyC (by decide +kernel) ?_
  · exact (looks_clsIn X₂ hcl).andThen .now
  show wpAny _ _ (callWith _ _ [] (backTo _ (starEach [Expr.Constant (.str msg) 0 q.a4] _)) []) _ _ _
  have hu : (h₂.push (kxs_mw "ValueError.__init__" y)).get? h₂.objs.size = some (kxs_mw "ValueError.__init__" y) := Heap.get?_push_size _ rfl
  have k₃ : ∀ b o, h₂.get? b = some o → (h₂.push (kxs_mw "ValueError.__init__" y)).get? b = some o := fun b o e => Heap.get?_push_of_some _ e
  refine kxs_callWith (i := "ValueError.__init__") (x := y) rfl ?_
  refine evalArgs_plain ?_
  show wpAny _ _ (spliced ((false, eval (.Constant (.str msg) 0 q.a4) (ksEnv qual eS s.heap.objs.size fI (.ref cda) cc)) :: [])) _ _ _
  refine Calls.spliced_cons (Calls.Constant_str ?_)
  refine Calls.spliced_nil ⟨hu, ?_⟩
  refine call_mw (X₂.keeps k₃ _ _ hC) hu (k₃ _ _ hx₂) (one_size _) fun h₄ t1 k₄ hx₄ => ?_
  have kk : ∀ b o, b ≠ y → h₁.get? b = some o → h₄.get? b = some o := fun b o hb e => k₄ b o hb (k₃ _ _ (k₂ _ _ e))
  have hLy : s.heap.objs.size ≠ y := Nat.ne_of_gt (Heap.lt_size hx)
  have X₄ : K.In h₄ := fun a o e => kk a o (fun z => by
    subst z
    rw [hnx] at e
    cases e) (X₁ _ _ e)
  -- self.f = f
  have hn₄ : h₄.Ns s.heap.objs.size (fun z => ([("self", Value.ref y), (f, v)] : List (Str × Value)).reverse.lookup z) := by
    obtain ⟨o, es, ep, e1, r⟩ := hn
    exact ⟨o, es, ep, kk _ _ hLy e1, r⟩
  refine ks_wpAt_execs_cons (ks_wpAt_Assign_Attr ?_ rfl)
  refine wpAt_of_wpAny ?_
  refine ldX (env := ksEnv qual eS s.heap.objs.size fI (.ref cda) cc) (v := v) (y := f) hn₄ bf ?_ rfl lf (by decide +kernel)
  refine ldX (env := ksEnv qual eS s.heap.objs.size fI (.ref cda) cc) (v := .ref y) (y := "self") hn₄ bself ?_ rfl lself (by decide +kernel)
  refine set_plain X₄ (ox := excO C t1) (od := none) ⟨hx₄, rfl, rfl, trivial⟩ T.sa ?_
  refine exc_osa X₄ hx₄ hcl (show refsVE (.ref C :: bm) = true from hbm) rfl T.noN (fun h₅ tk₅ dx k₅ dn dne hx₅ hn₅ => ?_)
  have z : s.heap.objs.size ≤ dx := Nat.le_trans (Nat.le_of_lt hn₄.lt) dn
  show wpAt (model prog w) _ _ (execs [] _) _ _ _
  refine wpAt_of_wpAny (wpAny_execs_nil ?_)
  exact hq h₅ _ dx t1 ⟨fun b o hb' e => k₅ b o hb' (kk b o hb' (hk₁ _ _ e)), hx₅, z, dne, hn₅⟩
/-- X(v), made -/
theorem err_made (T : ErrTxt prog K mg x C fI) {v : Value} (X : K.In s.heap) (hlim : s.heap.NoLimit) (hns : s.heap.Ns mainGlobals mg) {mb : Str → Option Value} (hb : s.heap.Ns builtinsNs mb) (hbs : mb "super" = some (.type "super")) (hroom : A.depth + 1 < recursionLimit)
    (hq : ∀ h' tk e d, OwnMade s.heap h' e C d v → R (.ok (.ret (.ref e))) { s with heap := h', toks := tk }) :
    codeAny (model prog w) A (.call (.ref C) ⟨[v], []⟩) R s := by
  obtain ⟨nm, qn, N, bs, bm, sn, sub, ab, col, dd, k0, k1, k2, k3, k5, hC, hbm, hal⟩ := T.cls
  obtain ⟨hp, g, dr, tk, os⟩ := s
  have k : ∀ b o, hp.get? b = some o → ((hp.push (kdv_tup [v])).push (excO C hp.objs.size)).get? b = some o := fun b o e => Heap.get?_push_of_some _ (Heap.get?_push_of_some _ e)
  have hget : ((hp.push (kdv_tup [v])).push (excO C hp.objs.size)).get? (hp.objs.size + 1) = some (excO C hp.objs.size) := by heap_get
  have hnx : K.lookup (hp.objs.size + 1) = none := by
    cases e : K.lookup (hp.objs.size + 1) with
    | none => rfl
    | some o =>
      have z : hp.get? (hp.objs.size + 1) = some o := X _ _ e
      exact absurd (Nat.lt_of_succ_lt (Heap.lt_size z)) (Nat.lt_irrefl _)
  refine call_own F.excBase_ValueError (fun X => refsVE_contains X bm hbm) (X _ _ hC) (looks_findIn X T.iC) (fun self => bind_fn X self T.tC) (one_size v) ?_
  refine err_init (s := ⟨(hp.push (kdv_tup [v])).push (excO C hp.objs.size), g, dr, tk, os⟩) T (X.keeps k) (hlim.keeps k) (hns.keeps k) (hb.keeps k) hbs hget hnx ?_ fun h' tk' dx t1 ⟨k', hx, dn, dne, hns'⟩ => ?_
  · show A.depth + 1 < recursionLimit
    exact hroom
  · have old : ∀ b o, hp.get? b = some o → h'.get? b = some o := fun b o e => k' b o (Nat.ne_of_lt (Nat.lt_succ_of_lt (Heap.lt_size e))) (k b o e)
    have z : hp.objs.size + 1 + 1 ≤ dx := by
      first
        | (simpa only [Heap.size_push] using dn)
        | exact dn
        | (have q := dn; rw [Heap.size_push, Heap.size_push] at q; exact q)
    exact ⟨rfl, hq h' tk' (hp.objs.size + 1) dx ⟨old, Nat.le_succ _, ⟨_, _, hx, rfl, rfl, rfl, rfl⟩, Nat.le_trans (Nat.le_trans (Nat.le_succ _) (Nat.le_succ _)) z, dne, hns'⟩⟩
end
end KwE
end PySem
/-! Errors of the package over the hand layer: X(v) made and raised, fault.at and isinstance(fault, KeepError) in a suite, methods whose error a try takes. -/
namespace L2
open PySem PySem.Spec PyProof.Rows
abbrev fAt : Str := "at"
theorem relO_at {v : V} {v' : Value} (r : RelV v v') (g : Str) : RelO (List.lookup g [(fAt, v)]) (if g = fAt then some v' else none) := by
  by_cases hw : g = fAt
  · subst hw
    rw [if_pos rfl]
    have q : List.lookup fAt [(fAt, v)] = some v := by simp [List.lookup]
    rw [q]
    exact r
  · rw [if_neg hw]
    have qw : (g == fAt) = false := by simpa using hw
    have q2 : List.lookup g [(fAt, v)] = none := by simp [List.lookup, qw]
    rw [q2]
    trivial
section
variable {X : Cx} {C fI : Addr} {x : Str}
/-- X(e) -/
def tMkE (C : Addr) (ta : TA) : St → Hp → XK → Prop := fun σ H Q => ta σ H fun vs H1 => ∃ v, vs = [v] ∧ ∀ d, H1 d = none → Q (.ref C) (some d) (upd H1 d (.xd [(fAt, v)]))
theorem pmk_err {a : Expr} {ta : TA} {p pos : Pos} {k : Nat} (T : PySem.KwE.ErrTxt X.prog X.K X.mg x C fI) (hr : Room k X.A) (ha : PA X [a] ta) (hg : Gl X x := by rfl) (hdb : (x == ("__debug__" : Str)) = false := by decide)
    (he : starEach (a :: []) X.env = (false, eval a X.env) :: starEach [] X.env := by rfl) (hpl : (backTo pos (starEach [] X.env)).any (·.1) = false := by rfl) :
    PMk X (.Call (.Name x p) [a] [] pos) (tMkE C ta) := by
  intro pins s σ H Q I h
  refine wpAny_Call_Name_kw (ld_glob I hg T.gC ?_ hdb)
  refine PySem.W.callWith_K (h₀ := X.base) I.ok.mod.kin T.kC (thn (ha.run pos pins s σ H _ I h) fun us s1 hh => ?_) he hpl
  obtain ⟨vs, H1, I1, r1, v, ev, q1⟩ := hh
  subst ev
  refine ⟨I1.kIn, ?_⟩
  cases r1 with
  | cons rv rn =>
    rename_i v' us'
    cases rn
    show wpAny _ _ (call (.ref C) [v']) _ _ _
    have hlim := I1.nolimit
    have hgl := I1.ok.mod.glob.keeps I1.bk
    obtain ⟨mb, hbl, hbv⟩ := I1.ok.mod.blt
    have hbl' := hbl.keeps I1.bk
    have hbs : mb "super" = some (.type "super") := (hbv _ (by decide +kernel)).trans (by first | rfl | decide +kernel)
    obtain ⟨hp, g, dr, tk, os⟩ := s1
    refine wpAny_call (PySem.KwE.err_made T I1.kIn hlim hgl hbl' hbs (by have := hr.dp; omega) fun h' tk' e d M => ?_)
    show MkP X pins σ Q (.ref e) ⟨h', g, dr, tk', os⟩
    obtain ⟨oe, fv, hoe, hc, hd, hdat, h1⟩ := M.obj
    have hns := M.ns
    obtain ⟨G', g1, g2⟩ := restrict h' fun b => decide (b ≠ e)
    have gk : ∀ b, b ≠ e → G'.get? b = h'.get? b := fun b hb => g1 b (decide_eq_true hb)
    have ge : G'.get? e = none := g2 e (by simp)
    have old : ∀ b o, hp.get? b = some o → G'.get? b = some o := fun b o q => (gk b (Nat.ne_of_lt (Nat.lt_of_lt_of_le (Heap.lt_size q) M.new))).trans (M.keep b o q)
    have ob : ObjOk X.prog X.w (upd H1 d (.xd [(fAt, v)])) G' d (.xd [(fAt, v)]) :=
      ⟨_, hns.at (fun o q => (gk d M.dne).trans q), fun f => relO_at rv f⟩
    have J : Inv X pins σ (upd H1 d (.xd [(fAt, v)])) ⟨G', g, dr, tk', os⟩ := I1.laid (t' := tk') old M.dbig ob
    refine ⟨e, oe, fv, ⟨G', g, dr, tk', os⟩, _, .ref C, some d, rfl, J, fun b o q => ?_, ge, hoe, ⟨hc, hd⟩, hdat, h1, ?_, rfl, I1.bare, raises_own T.exC T.tyC, q1 d (I1.hok.fresh M.dbig)⟩
    · by_cases hb : b = e
      · have q' : G'.get? b = some o := q
        rw [hb, ge] at q'; cases q'
      · exact (gk b hb).symm.trans q
    · rw [upd_ne (Ne.symm M.dne)]
      exact I1.hok.fresh M.new
/-- raise X(e) -/
def tRaiseE (C : Addr) (W : WX) (ta : TA) : TS := fun _ σ H => tMkE C ta σ H fun cls d H' => W cls d σ H'
theorem ps_raiseE {a : Expr} {ta : TA} {W : WX} {p pos pos2 : Pos} {k : Nat} (hc : X.calm = true) (T : PySem.KwE.ErrTxt X.prog X.K X.mg x C fI) (hr : Room k X.A) (tk : Takes X W) (ha : PA X [a] ta) (hg : Gl X x := by rfl) (hdb : (x == ("__debug__" : Str)) = false := by decide)
    (he : starEach (a :: []) X.env = (false, eval a X.env) :: starEach [] X.env := by rfl) (hpl : (backTo pos (starEach [] X.env)).any (·.1) = false := by rfl) :
    PS X (.Raise (some (.Call (.Name x p) [a] [] pos)) none pos2) (tRaiseE C W ta) := ps_raise hc tk (pmk_err T hr ha hg hdb he hpl)
/-- fault.at, fault the error that the suite holds (at a; its class cls, its dict d) -/
def tErrAt (C : Addr) (a : Addr) (cls : Value) (d : Option Addr) (te : TE) : TE := fun σ H Q => te σ H fun y H1 => y = .ref a ∧ cls = .ref C ∧ ∃ (dd : Addr) (v : V), d = some dd ∧ H1 dd = some (.xd [(fAt, v)]) ∧ Q v H1
theorem pe_errAt {P : Program} {mg : Str → Option Value} {a : Addr} {oe : Obj} {cls : Value} {d : Option Addr} {pn : List (Addr × Obj)} {e : Expr} {te : TE} {pos : Pos} (T : PySem.KwE.ErrTxt P X.K mg x C fI) (hz : Zc cls d oe) (hf : ∃ vs, oe.data = .fields vs) (he : PE (X.suite a ((a, oe) :: pn)) e te)
    (hb : attributeBase e fAt X.env (eval e X.env) = eval e X.env := by rfl) :
    PE (X.suite a ((a, oe) :: pn)) (.Attribute e fAt pos) (tErrAt C a cls d te) := by
  refine ⟨fun pins s σ H Q I h => ?_⟩
  refine attr_of hb (thn (he.run pins s σ H _ I h) fun u s1 hh => ?_)
  obtain ⟨y, H1, I1, rx, ex, ec, dd, v, ed, ea, q⟩ := hh
  subst ex
  obtain rfl : u = Value.ref a := rx
  subst ec
  subst ed
  obtain ⟨ha, _⟩ := I1.pin (a, oe) (List.mem_append_left _ List.mem_cons_self)
  obtain ⟨vs, hd⟩ := hf
  have hx : ObjOk X.prog X.w H1 s1.heap dd (.xd [(fAt, v)]) := I1.hok dd _ ea
  obtain ⟨mA, hns, hr⟩ := hx
  obtain ⟨od, ho, hl⟩ := lookIn_ns hns
  have l : List.lookup fAt [(fAt, v)] = some v := by simp [List.lookup]
  obtain ⟨u, hu, ru⟩ := RelO.some_of (v := v) (o := mA fAt) (by rw [← l]; exact hr fAt)
  have J : PySem.W.InstAt s1.heap a oe C (some od) := ⟨ha, hz.1, by unfold PySem.W.notCls; rw [hd] <;> rfl, by rw [hz.2]; exact ho⟩
  exact HandSPX.exc_get I1.kIn J T.ga T.gg T.exC (PySem.W.findObj_own T.hdC T.noN rfl (by rw [hl, hu])) (handed_of ru) ⟨v, H1, I1.tok _, ru, q⟩

/-- what the class must say, so that isinstance asks its instances rightly -/
structure ErrIs (K : PySem.W.Frag) (C : Addr) : Prop where
  cl : (PySem.W.clsIn K C).isSome = true
  ha : PySem.W.findIn K (.ref C) "__class__" = some (some (.builtin "object.__class__"))
  hn : PySem.W.specialIn K (.builtin "object.__class__") "__get__" = some (some (.builtin "getset_descriptor.__get__"))
  ht : PySem.W.takesIn K (.builtin "object.__class__") = some true
  hm : PySem.W.mroIn K C (.type "object") = some true
/-- isinstance(fault, c) in the suite: its answer b -/
def rErrIs (K : PySem.W.Frag) (C a : Addr) (cls : Value) (d : Option Addr) : List V → Hp → VK → Prop := fun xs H Q => ∃ (c : Addr) (b : Bool) (dd : Addr) (fs : List (Str × V)), cls = .ref C ∧ xs = [.ref a, .ref c] ∧ d = some dd ∧ H dd = some (.xd fs) ∧ PySem.W.kitOne K (.ref C) (.ref c) = some b ∧ Q (.bl b) H
theorem call_errIs {P : Program} {mg : Str → Option Value} {a : Addr} {oe : Obj} {cls : Value} {d : Option Addr} {pn : List (Addr × Obj)} (T : PySem.KwE.ErrTxt P X.K mg x C fI) (S : ErrIs X.K C) (hz : Zc cls d oe) (hf : ∃ vs, oe.data = .fields vs) :
    CallR (X.suite a ((a, oe) :: pn)) (.builtin "isinstance") (rErrIs X.K C a cls d) := by
  intro pins s σ H xs us Q I r h
  obtain ⟨c, b, dd, fs, rfl, rfl, rfl, ed, e, q⟩ := h
  cases r with
  | cons rx rr =>
    cases rr with
    | cons rt rr =>
      cases rr
      cases rx
      cases rt
      obtain ⟨hget, _⟩ := I.pin (a, oe) (List.mem_append.mpr (.inl List.mem_cons_self))
      obtain ⟨vs, hv⟩ := hf
      have hx : ObjOk X.prog X.w H s.heap dd (.xd fs) := I.hok dd _ ed
      obtain ⟨mA, ⟨od, es, ep, ho, _⟩, hr⟩ := hx
      have J : PySem.W.InstAt s.heap a oe C (some od) := ⟨hget, hz.1, by unfold PySem.W.notCls; rw [hv] <;> rfl, by rw [hz.2]; exact ho⟩
      exact PySem.W.kia_one (PySem.W.kitx_exc S.cl T.ga T.gg T.exC S.ha S.hn S.ht S.hm) I.kIn J e (fun z => nomatch z) fun tk => ⟨.bl b, H, I.kept (t' := tk) fun _ _ z => z, rfl, q⟩
end

/-! ### methods whose error is wished for at the slots -/
section
variable {X : Cx} {CX : CXT} {k : Nat} {f C : Addr} {fd : FuncData} {ps : List Str} {sp : Sp} {E : St → XK} {m : Str} {pos apos : Pos} {e o : Expr} {es : List Expr} {ta : TE} {t : TA}
/-- o.m(..), what is raised wished for at the caller's slots -/
def tMethSw (m : Str) (C : Addr) (sp : Sp) (E : St → XK) (ta : TE) (t : TA) : TE := fun σ H Q => ta σ H fun y H1 => ∃ a dx fs, y = .ref a ∧ H1 a = some (.ins C dx fs) ∧ fs.lookup m = none ∧
  t σ H1 fun vs H2 => sp (y :: vs) H2 Q (E σ)
theorem pe_methSw {pl : Sem Bool} (he : PE X o ta) (c : Cls X.K C) (hm : Meth X.K C m f) (F : FnOk X.prog X.w X.K X.mg X.base CX k f fd ps sp) (hr : Room k X.A) (hb : Binds X.K fd ps []) (hx : ∀ σ, PassesAt CX X σ (E σ)) (ha : PA X (e :: es) t)
    (hst : starEach (e :: es) X.env = (false, eval e X.env) :: starEach es X.env := by rfl) (hpl : (backTo pos (starEach es X.env)).any (·.1) = false := by rfl)
    (ht : eval (.Call (.Attribute o m apos) (e :: es) [] pos) X.env = (do
      let ov ← eval o X.env
      standAt apos.atName
      let (f, first) ← holding [ov] (getMethod ov m pl)
      callWith pos f first (backTo pos (starEach (e :: es) X.env)) (backToKw pos (keywordEach [] X.env))) := by rfl) :
    PE X (.Call (.Attribute o m apos) (e :: es) [] pos) (tMethSw m C sp E ta t) := by
  constructor
  intro pins s σ H Q I h
  refine PySem.W.methodCall_KW (pl := pl) (thn (he.run pins s σ H _ I h) fun u s1 hh => ?_) ht
  obtain ⟨y, H1, I1, rx, a, dx, fs, ex, ea, l, q⟩ := hh
  subst ex
  obtain rfl : u = Value.ref a := rx
  refine getmeth_ok I1 ea c hm l (PySem.W.callWith_K (first := [.ref a]) (h₀ := X.base) I1.ok.mod.kin hm.kp (thn (ha.run pos pins s1 σ H1 _ I1 q) fun us s2 hh2 => ?_) hst hpl)
  obtain ⟨vs, H2, I2, r, q2⟩ := hh2
  exact ⟨I2.kIn, run_fnS (us := .ref a :: us) (vs := .ref a :: vs) F hr hb (hx σ) I2 (.cons rfl r) q2⟩
/-- a def that may raise, called where it does not -/
theorem passX0 {X : Cx} : Passes (L2.CX X.prog X.w) X E0 := fun _ _ _ _ _ _ _ h => by
  obtain ⟨a, B, H', cls, d, _, _, _, _, _, _, _, hE⟩ := h
  exact hE.elim
end
end L2
/-! set(xs) of a list or tuple of ints of any kind, len of it: with what the hand layer's sorted(set) wants. -/
namespace L2
open PySem PySem.Spec PyProof.Rows
section
variable {P : Program} {w : World} {A : Around} {E : Value → Shared → Prop} {s : Shared}
/-- a new, empty set -/
abbrev set0 (w : World) : Obj := { cls := .type "set", dict := none, data := .set #[] 0 (.fresh 0 0 (!w.params.followText "set-order")) }
/-- set.__init__ of a list of ints, at an empty set that stands last -/
theorem set_init_listI {l a : Addr} {items : Array Value} {ns : List Int} {R : Result → Shared → Prop} (hh : A.handled = none) (hl : s.heap.IsList l items) (hi : IntsAre items.toList ns) (hb : ns.length + 1 < scanBound)
    (ha : s.heap.get? a = some (set0 w)) (hla : l ≠ a)
    (h : ∀ (h' : Heap) (tk c : Nat), SetR w h' a (fun j => decide (j ∈ ns)) c → c ≤ ns.length → (∀ b o, b ≠ a → s.heap.get? b = some o → h'.get? b = some o) → R (.ok (.ret .none)) { s with heap := h', toks := tk }) :
    wpAny (model P w) A.in1 (Builtin.«set.__init__» ⟨[.ref a, .ref l], []⟩) (fun f s' => match f with | .done r => R (.ok r) s' | .again c => c.quiet = true ∧ codeAny (model P w) A c R s') (fun e s' => R (.error e) s') s := by
  have lenI : items.size = ns.length := by
    have q := IntsAre.length hi
    rwa [Array.length_toList] at q
  obtain ⟨ol, hol, hcl, nl, hdl⟩ := hl
  obtain ⟨kcls, kdict, kdata, kslots⟩ := ol
  dsimp only at hcl hdl
  subst hcl hdl
  have isl := F.sub_list_set
  have isf := F.sub_list_frozenset
  have nd : (Value.type "list" == Value.type "dict") = false := by decide
  have hl1 : s.heap.IsList l items := ⟨_, hol, rfl, nl, rfl⟩
  obtain ⟨hp, g, dr, tk0, os⟩ := s
  dsimp only at hol ha hl1 h
  unfold Builtin.«set.__init__» noKeywords Builtin.Frozenset.updateFrom
  generalize hPI : pyIter = PI
  wp_walk
  subst hPI
  refine wpAny_pyIter_list hl1 ?_
  refine wpAny_bind (wpAny_runValue ?_)
  have la : a < hp.objs.size := Heap.lt_size ha
  have ll : l < hp.objs.size := Heap.lt_size hol
  have h3 : A.in1.in1.handled = none := by simp [hh]
  have val : ∀ (i : Nat) (v : Value), items[i]? = some v → ∃ k t, ns[i]? = some k ∧ v = .int k t := fun i v hv => by
    have lt : i < ns.length := by rw [← lenI]; exact (Array.getElem?_eq_some_iff.mp hv).1
    obtain ⟨t, e⟩ := PyProof.Rows.IntsAre.int_at hi i v (by rw [Array.getElem?_toList]; exact hv)
    exact ⟨ns[i], t, List.getElem?_eq_getElem lt, by rw [e, List.getD_eq_getElem?_getD, List.getElem?_eq_getElem lt] <;> rfl⟩
  have nI : l ≠ hp.objs.size := Nat.ne_of_lt ll
  have nfp : a ∉ [hp.objs.size, l] := by
    simp only [List.mem_cons, List.not_mem_nil, or_false, not_or]
    exact ⟨Nat.ne_of_lt la, hla.symm⟩
  refine set_update_ints ((Walks.list h3 _ l nI items).toS) a nfp ns lenI hb val (items.size - 0) 0 _ (by omega) (Nat.zero_le _) ⟨⟨_, Heap.get?_push_size _ rfl, rfl, rfl⟩, (hl1.push _)⟩ ⟨0, Nat.le_refl 0, setR_new_at (Heap.get?_push_of_some _ ha)⟩ ?_
  intro s' c' hm hc' hS'
  obtain ⟨h', g2, d', tk', os'⟩ := s'
  obtain rfl : g2 = g := hm.gens
  obtain rfl : d' = dr := hm.drawn
  obtain rfl : os' = os := hm.os
  refine wpAny_pure ?_
  show wpAny _ _ (ret Value.none) _ _ _
  refine wpAny_pure (h h' tk' c' hS' (by omega) fun b o hb' e => hm.heap b o ?_ (Heap.get?_push_of_some _ e))
  simp only [List.mem_cons, List.not_mem_nil, or_false, not_or]
  exact ⟨hb', Nat.ne_of_lt (Heap.lt_size e)⟩
/-- T(args): new, then __init__ by its own code -/
theorem type_called {T newId initId : String} {args : List Value} {Q Q₁ : Value → Shared → Prop} (ft : TypeCalled T newId initId)
    (hct : ∀ {Q' : Unit → Shared → Prop} {E' : Value → Shared → Prop}, Q' () s → wpAny (model P w) A.in1 (checkTypeCall T ⟨args, []⟩) Q' E' s)
    (hnew : codeAny (model P w) A.in1 (.call (.builtin newId) ⟨.type T :: args, []⟩) (wants Q₁ E) s)
    (hnext : ∀ obj s₁, Q₁ obj s₁ → s₁.TypeIs obj T ∧ codeAny (model P w) A.in1 (.call (.builtin initId) ⟨obj :: args, []⟩) (wants (fun r s₂ => r = .none ∧ Q obj s₂) E) s₁) :
    wpAny (model P w) A (call (.type T) args) Q E s := by
  obtain ⟨c, tl, hmro⟩ := ft.mro
  have f0 := ft.made
  have f1 := ft.sub
  have f2 := ft.notType
  have f3 := ft.canCreate
  refine wpAny_call (codeAny_of_tree ?_)
  show wpAny _ _ (callAny (.type T) _) _ _ _
  refine wpAny_pure ⟨Code.quiet_builtin _ (by decide +kernel), codeAny_builtin F.entry_type_call ?_⟩
  rw [Around.under_plain (weight_type_call_type T args []) rfl]
  repeat (any_goals (first | assumption | (with_reducible refine hct ?_) | wp_step))
  refine codeAny_mono hnew fun r s₁ hr => ?_
  match r, hr with
  | .ok (.ret obj), hr =>
    obtain ⟨hT, hi⟩ := hnext obj s₁ hr
    have g0 := ft.init.lookup
    have g1 := ft.init.bind obj
    repeat (any_goals (first | assumption | wp_step))
    refine codeAny_mono hi fun r₂ s₂ hr₂ => ?_
    match r₂, hr₂ with
    | .ok (.ret r), hr₂ =>
      obtain ⟨rfl, hq⟩ := hr₂
      repeat (any_goals (first | assumption | wp_step))
    | .error e, hr₂ => exact hr₂
    | .ok .next, hr₂ => exact hr₂.elim
    | .ok .brk, hr₂ => exact hr₂.elim
    | .ok .cont, hr₂ => exact hr₂.elim
  | .error e, hr => exact hr
  | .ok .next, hr => exact hr.elim
  | .ok .brk, hr => exact hr.elim
  | .ok .cont, hr => exact hr.elim
/-- set(l) -/
theorem call_set_listI {l : Addr} {items : Array Value} (ns : List Int) {Q : Value → Shared → Prop} (hh : A.handled = none) (hl : s.heap.IsList l items) (hi : IntsAre items.toList ns) (hb : ns.length + 1 < scanBound)
    (h : ∀ (h' : Heap) (tk c : Nat), SetR w h' s.heap.objs.size (fun j => decide (j ∈ ns)) c → c ≤ ns.length → (∀ b o, s.heap.get? b = some o → h'.get? b = some o) → Q (.ref s.heap.objs.size) { s with heap := h', toks := tk }) :
    wpAny (model P w) A (call (.type "set") [.ref l]) Q E s := by
  have hlt : l < s.heap.objs.size := by
    obtain ⟨o, ho, _⟩ := hl
    exact Heap.lt_size ho
  refine type_called (Q₁ := fun obj s₁ => obj = .ref s.heap.objs.size ∧ s₁ = { s with heap := s.heap.push (set0 w) }) F.called_set (fun {Q' E'} q => by rw [F.typeCall_set_1]; exact wpAny_pure q) (code_set_led1 (.ref l) ⟨rfl, rfl⟩) fun obj s₁ h₁ => ?_
  obtain ⟨rfl, rfl⟩ := h₁
  have hS : (s.heap.push (set0 w)).get? s.heap.objs.size = some (set0 w) := Heap.get?_push_size _ rfl
  have hT : Shared.TypeIs { s with heap := s.heap.push (set0 w) } (.ref s.heap.objs.size) "set" := ⟨_, hS, rfl⟩
  refine ⟨hT, codeAny_call_builtin F.called_set.init.plain F.entry_set_init (check_set_init_1 hT ?_)⟩
  refine set_init_listI (s := { s with heap := s.heap.push (set0 w) }) hh (hl.push _) hi hb hS (Nat.ne_of_lt hlt) fun h' tk c hR hc hk => ?_
  exact ⟨rfl, h h' tk c hR hc fun b o e => hk b o (Nat.ne_of_lt (Heap.lt_size e)) (Heap.get?_push_of_some _ e)⟩
end
section
variable {X : Cx}
/-- set(xs) -/
def rSetI (K : PySem.W.Frag) (w : World) : List V → Hp → VK → Prop := fun vs H Q => ∃ (l : Addr) (ns : List Int), vs = [V.ref l] ∧ (SqL K H l (ns.map V.int) ∨ SqT K H l (ns.map V.int)) ∧ ns.length ≤ 4000 ∧
  ∀ (p : Addr) (c : Nat) (m : List Int), m.Nodup → (∀ k, k ∈ m ↔ k ∈ ns) → m.length = c → c ≤ ns.length → H p = none → Q (.ref p) (upd H p (SetO w p (fun j => decide (j ∈ ns)) c))
theorem cr_setI (hc : X.calm = true) : CallR X (.type "set") (rSetI X.K X.w) := by
  intro pins s σ H vs us Q I r h
  obtain ⟨l, ns, rfl, hs, hz, q⟩ := h
  rw [Vals.ref1 r]
  have hb : ns.length + 1 < scanBound := by unfold scanBound; omega
  have fin : ∀ (h' : Heap) (tk c : Nat), SetR X.w h' s.heap.objs.size (fun j => decide (j ∈ ns)) c → c ≤ ns.length → (∀ b o, s.heap.get? b = some o → h'.get? b = some o) → EP X pins σ Q (.ref s.heap.objs.size) { s with heap := h', toks := tk } := fun h' tk c hR hcl k =>
    have ⟨o, es, ep, t, ho, hex, hd, g, nd, hm, hb', hf, hn, hr', hl⟩ := id hR
    ⟨.ref _, _, I.laid (t' := tk) k (Nat.le_refl _) (setO_new hR), rfl, q _ c (es.toList.map keyOf) nd (fun k => (hm k).symm.trans ⟨of_decide_eq_true, decide_eq_true⟩) (by rw [List.length_map, Array.length_toList]; exact hn) hcl (I.hok.fresh (Nat.le_refl _))⟩
  rcases hs with hs | hs
  · obtain ⟨its, rv, pl, _⟩ := I.list hs
    exact call_set_listI ns (I.ok.hd hc) pl.isList (by simpa using ints_of_vals rv) hb fin
  · obtain ⟨its, rv, ⟨o, ho, hcl, n, hd⟩, _⟩ := I.tuple hs
    exact call_set_tupI ns (I.ok.hd hc) ⟨o, ho, hcl, n, hd⟩ (by simpa using ints_of_vals rv) hb fin
/-- len(a set) -/
def rLenSetO (w : World) : List V → Hp → VK → Prop := fun vs H Q => ∃ (a : Addr) (S : Int → Bool) (n : Nat), vs = [V.ref a] ∧ H a = some (SetO w a S n) ∧ (∀ m : List Int, m.Nodup → (∀ k, k ∈ m ↔ S k = true) → m.length = n → Q (.int (n : Nat)) H)
theorem call_lenSetO : CallR X (.builtin "len") (rLenSetO X.w) := by
  intro pins s σ H vs us Q I r h
  obtain ⟨a, S, n, rfl, ha, q⟩ := h
  rw [Vals.ref1 r]
  obtain ⟨o, es, ep, t, ho, hex, hd, g, nd, hm, hb, hf, hn, hr, hl⟩ := setO_get I ha
  have q' := q (es.toList.map keyOf) nd (fun k => (hm k).symm) (by rw [List.length_map, Array.length_toList]; exact hn)
  exact call_len_set ho hex hd hf (by unfold scanBound at hb; omega) ⟨.int (n : Nat), H, I.tok _, ⟨_, by rw [hn]⟩, q'⟩
end
end L2
/-! Defs that ask repr: no repr is under way around them (A.guards is told). repr of data; calls by keywords alone; the law's end for such a def. -/
namespace L2
open PySem PySem.Spec PyProof.Rows

/-! ### repr -/
section
variable {X : Cx}
/-- repr(x), x data -/
def rRepr (K : PySem.W.Frag) : List V → Hp → VK → Prop := fun xs H Q => ∃ (x : V) (d : PyData), xs = [x] ∧ Dp K H x d ∧ d.showable = true ∧ d.hasDict = false ∧ d.depth ≤ 100 ∧ d.shown.length ≤ sizeLine ∧ Q (.str d.shown) H
theorem call_repr {k : Nat} (hG : X.A.guards = some []) (hr : Room k X.A) : CallR X (.builtin "repr") (rRepr X.K) := by
  intro pins s σ H xs us Q I r h
  obtain ⟨x, d, rfl, hd, hs, hnd, hdp, hz, q⟩ := h
  have hun := hr.un
  cases r with
  | cons rx rr =>
    cases rr
    rename_i u
    obtain ⟨as, rd⟩ := Dp.reads I d x u hd rx
    have fin : ∀ (h' : Heap) (t : Tok) (tk : Nat), (∀ b o, s.heap.get? b = some o → h'.get? b = some o) → EP X pins σ Q (.str d.shown t) { s with heap := h', toks := tk } := fun h' t tk hk => ⟨.str d.shown, H, I.kept (t' := tk) hk, ⟨t, rfl⟩, q⟩
    cases hd with
    | non =>
      cases rd
      exact PySem.P.repr_of_none ⟨.str _, H, I.tok _, ⟨_, rfl⟩, q⟩
    | bl b =>
      cases rd
      have e : PyData.shown (.bool b) = ((if b then "True" else "False" : String) : Str) := by cases b <;> (simp only [PyData.shown]; rfl)
      refine PySem.P.repr_of_bool ⟨.str _, H, I.tok _, ⟨_, rfl⟩, ?_⟩
      cases b
      · simpa only [PyData.shown] using q
      · simpa only [PyData.shown] using q
    | int i =>
      cases rd
      have hi : i.natAbs.log2 < 1920 := by simpa [PyData.showable] using hs
      exact PySem.P.repr_of_int hi ⟨.str _, H, I.tok _, ⟨_, rfl⟩, by simpa only [PyData.shown] using q⟩
    | str y =>
      cases rd
      exact PySem.P.repr_of_str ⟨.str _, H, I.tok _, ⟨_, rfl⟩, by simpa only [PyData.shown] using q⟩ (by simpa only [PyData.shown] using hz)
    | lst _ _ =>
      cases rx
      exact repr_of_reads' rd hs (PyData.noDict_hsm hnd) hG (by omega) (fun _ _ e => e) (fun h' t tk hk => fin h' t tk hk) hz
    | tup _ _ =>
      cases rx
      exact repr_of_reads' rd hs (PyData.noDict_hsm hnd) hG (by omega) (fun _ _ e => e) (fun h' t tk hk => fin h' t tk hk) hz
end

/-! ### defs that know their guards -/
/-- as FnOk, where no repr is under way -/
structure FnG (P : Program) (w : World) (K : PySem.W.Frag) (mg : Str → Option Value) (base : Heap) (CX : CXT) (k : Nat) (f : Addr) (fd : FuncData) (ps : List Str) (sp : Sp) : Prop where
  len : ∀ vs H Q E, sp vs H Q E → vs.length = ps.length
  run : ∀ (A : Around) (outer : List Env) (s : Shared) (H : Hp) (args : Args) (us : List Value) (vs : List V) (Q : VK) (E : XK), A.guards = some [] → Room k A → Env0 P w K mg base A outer s H → BindsTo s fd args (ps.zip us) → Vals vs us → sp vs H Q E →
    codeAny (model P w) A (.call (.ref f) args) (CR CX outer P w H s Q E) s
section
variable {P : Program} {w : World} {K : PySem.W.Frag} {mg : Str → Option Value} {base : Heap}
theorem FnOk.toG {CX : CXT} {k : Nat} {f : Addr} {fd : FuncData} {ps : List Str} {sp : Sp} (F : FnOk P w K mg base CX k f fd ps sp) : FnG P w K mg base CX k f fd ps sp :=
  ⟨F.len, fun A outer s H args us vs Q E _ => F.run A outer s H args us vs Q E⟩
/-- THE RULE for a def that may ask repr -/
theorem fn_ofG {CX : CXT} {k : Nat} {f : Addr} {name qual : Str} {params : Arguments} {body : List Stmt} {scope : Scope} {dV kV doc pm cdv ct oc : Value} {an od : Option Addr} {osl : Array (Option Value)} {N ps : List Str} {sp : Sp}
    (lk : K.lookup f = some ⟨oc, od, .func (PySem.W.fnOf name qual params body scope dV kV doc pm an cdv ct), osl⟩) (hcd : PySem.W.codeIn K cdv qual = true) (S : FnScope N ps scope) (len : ∀ vs H Q E, sp vs H Q E → vs.length = ps.length)
    (hbody : ∀ (A : Around) (outer : List Env) (s : Shared) (H : Hp) (vs : List V) (Q : VK) (E : XK), (A.deeper (envOfC qual scope s.heap.objs.size f cdv)).guards = some [] → Room k (A.deeper (envOfC qual scope s.heap.objs.size f cdv)) → sp vs H Q E →
      ∃ t, PSs (cxOf CX P w K mg base N qual scope f cdv A outer s H E) body t ∧ t { nx := fun _ H' => Q .non H', rt := Q } (start N vs) H) :
    FnG P w K mg base CX (k + 1) f (PySem.W.fnOf name qual params body scope dV kV doc pm an cdv ct) ps sp := by
  constructor
  · exact len
  intro A outer s H args us vs Q E hG hr e0 hb rv hsp
  have hlen := len _ _ _ _ hsp
  have inK : K.In s.heap := e0.mod.kin.keeps fun b o q => (e0.bs b o q).1
  have nolim : s.heap.NoLimit := e0.mod.nolimit.keeps fun b o q => (e0.bs b o q).1
  have kinds : ∀ y ∈ ps.zip us, scope.names.lookup y.1 = some .local ∨ (scope.names.lookup y.1 = some .cell ∧ ((cellsFrom (s.heap.objs.size + 1) scope.names []).lookup y.1).isSome = true) := by
    rintro ⟨n, v⟩ hy
    exact (S.par n (List.of_mem_zip hy).1).imp id fun q => ⟨q, PySem.W.cellsFrom_some _ _ _ (.inl q)⟩
  refine codeAny_call_function hr.depth (inK _ _ lk) rfl S.co S.gen rfl (PySem.W.codeRec_of inK hcd) (hb _ _ _ _ (wpAny_newFunctionEnv_cells S.kind kinds fun env he s1 x => ?_))
  subst he
  refine ⟨nolim.keeps x.toInCall.keep, codeAny_func ?_⟩
  obtain ⟨t, ht, hq⟩ := hbody A outer s H vs Q E hG (hr.deeper _) hsp
  refine wpAny_mono (ht.run [] s1 (start N vs) H _ (inv_start S hr.hd e0 hlen rv x) hq) (fun fl s' hs => ?_) fun e s' hs => hs
  match fl, hs with
  | .ret u, ⟨v, σ', H', J, r, q⟩ => exact ⟨v, H', J.os, J.bare, J.base, J.hok, r, q⟩
  | .next, ⟨σ', H', J, q⟩ => exact ⟨V.non, H', J.os, J.bare, J.base, J.hok, rfl, q⟩
  | .brk, ⟨_, _, _, q⟩ => exact False.elim q
  | .cont, ⟨_, _, _, q⟩ => exact False.elim q
theorem Fun.okG {x qual : Str} {st : Stmt} {f : Addr} {fd : FuncData} {N ps : List Str} {k : Nat} {sp : Sp} (F : Fun K x qual st f fd) (S : FnScope N ps (defScope st)) (len : ∀ vs H Q E, sp vs H Q E → vs.length = ps.length)
    (hbody : ∀ (cdv : Value) (A : Around) (outer : List Env) (s : Shared) (H : Hp) (vs : List V) (Q : VK) (E : XK), (A.deeper (envOfC qual (defScope st) s.heap.objs.size f cdv)).guards = some [] → Room k (A.deeper (envOfC qual (defScope st) s.heap.objs.size f cdv)) → sp vs H Q E →
      ∃ t, PSs (cxOf CX0 P w K mg base N qual (defScope st) f cdv A outer s H E).nox (defBody st) t ∧ t { nx := fun _ H' => Q .non H', rt := Q } (start N vs) H) : FnG P w K mg base CX0 (k + 1) f fd ps sp := by
  obtain ⟨oc, od, kV, doc, pm, an, cdv, ct, osl, rfl, lk, hcd⟩ := F.ex
  refine fn_ofG lk hcd S len fun A outer s H vs Q E hG hr hsp => ?_
  obtain ⟨t, h, q⟩ := hbody cdv A outer s H vs Q E hG hr hsp
  exact ⟨t, h.nox, q⟩
end
section
variable {X : Cx} {CX : CXT} {k n : Nat} {f : Addr} {fd : FuncData} {ps ks : List Str} {sp : Sp} {dvs : List V} {ds : List Value} {E : XK} {x : Str} {p pos : Pos} {e : Expr} {es : List Expr} {kws : List Keyword} {t tk : TA} {g : List Value → List Value → List Value} {gV : List V → List V → List V}
theorem run_fnG {pins : List (Addr × Obj)} {σ : St} {H : Hp} {s : Shared} {Q : VK} {us : List Value} {vs : List V} (F : FnG X.prog X.w X.K X.mg X.base CX k f fd ps sp) (hG : X.A.guards = some []) (hr : Room k X.A) (hb : Binds X.K fd ps []) (hx : Passes CX X E)
    (I : Inv X pins σ H s) (r : Vals vs us) (h : sp vs H Q E) : wpAny (model X.prog X.w) X.A (call (.ref f) us) (EP X pins σ Q) X.xe s := by
  have hl : us.length = ps.length := by rw [← r.length]; exact F.len _ _ _ _ h
  have b := hb s us I.kIn (by rw [List.append_nil]; exact hl)
  rw [List.append_nil] at b
  refine wpAny_call (codeAny_mono (F.run X.A X.stack s H ⟨us, []⟩ us vs Q E hG hr I.env0 b r h) fun r s' hq => ?_)
  match r, hq with
  | .error e, hq => exact hx pins σ H s e s' I hq
  | .ok (.ret u), hq => exact I.after hq
  | .ok .next, hq => exact False.elim hq
  | .ok .brk, hq => exact False.elim hq
  | .ok .cont, hq => exact False.elim hq
/-- f(e, ..), f a def that asks repr -/
theorem pe_callG2 (F : FnG X.prog X.w X.K X.mg X.base CX k f fd ps sp) (hG : X.A.guards = some []) (hr : Room k X.A) (hg : Gl X x) (hm : X.mg x = some (.ref f)) (hk : PySem.W.keepIn X.K (.ref f) = true) (hb : Binds X.K fd ps []) (hx : Passes CX X E)
    (ha : PA X (e :: es) t) (hdb : (x == ("__debug__" : Str)) = false := by decide) (he : starEach (e :: es) X.env = (false, eval e X.env) :: starEach es X.env := by rfl) (hpl : (backTo pos (starEach es X.env)).any (·.1) = false := by rfl) :
    PE X (.Call (.Name x p) (e :: es) [] pos) (tCall sp [] E t) := by
  constructor
  intro pins s σ H Q I h
  refine wpAny_Call_Name_kw (ld_glob I hg hm (PySem.W.callWith_K (h₀ := X.base) I.ok.mod.kin hk (thn (ha.run pos pins s σ H _ I h) fun us s1 hh => ?_) he hpl) hdb)
  obtain ⟨vs, H1, I1, r, q⟩ := hh
  rw [List.append_nil] at q
  exact ⟨I1.kIn, run_fnG F hG hr hb hx I1 r q⟩
/-- f(k = v, ..), keywords alone -/
theorem pe_callN0 (F : FnOk X.prog X.w X.K X.mg X.base CX k f fd ps sp) (hr : Room k X.A) (hg : Gl X x) (hm : X.mg x = some (.ref f)) (hk : PySem.W.keepIn X.K (.ref f) = true) (hb : KBn X.K fd ps 0 ks g gV) (hx : Passes CX X E)
    (hkw : PK X kws tk) (hall : (backToKw pos (keywordEach kws X.env)).all (·.1.isSome) = true := by rfl) (hks : (backToKw pos (keywordEach kws X.env)).filterMap (·.1) = ks := by rfl) (hdb : (x == ("__debug__" : Str)) = false := by decide)
    (hpl : ((backTo pos (starEach [] X.env)).any (·.1) || (backToKw pos (keywordEach kws X.env)).any (·.1.isNone)) = false := by rfl) :
    PE X (.Call (.Name x p) [] kws pos) (tCallN 0 ks.length sp gV E tNil tk) := by
  constructor
  intro pins s σ H Q I h
  refine wpAny_Call_Name_kw (ld_glob I hg hm (PySem.W.callWith_KW0 (h₀ := X.base) I.ok.mod.kin hk hall (thn (hkw.run pos pins s σ H _ I h) fun ws s2 hh => ?_) hpl) hdb)
  obtain ⟨zs, H2, I2, rz, l1, l2, q2⟩ := hh
  rw [hks]
  exact ⟨I2.kIn, run_fnN (us := []) (vs := []) F hr hb hx I2 .nil rz rfl l2 q2⟩
end
/-- the keywords of a def without defaults, in any order -/
theorem Fun.kbn0 {K : PySem.W.Frag} {x qual : Str} {st : Stmt} {f : Addr} {fd : FuncData} {ps ks : List Str} (F : Fun K x qual st f fd) (g : {α : Type} → List α → List α)
    (hrel : ∀ {zs : List V} {ws : List Value}, Vals zs ws → Vals (g zs) (g ws))
    (h : ∀ (kV doc pm : Value) (an : Option Addr) (cdv ct : Value) (ws : List Value), ws.length = ks.length → bindArgs (PySem.W.fnOf x qual (defArgs st) (defBody st) (defScope st) .none kV doc pm an cdv ct) ⟨[], ks.zip ws⟩ = pure (ps.zip (g ws))) :
    KBn K fd ps 0 ks (fun _ ws => g ws) (fun _ zs => g zs) := by
  obtain ⟨oc, od, kV, doc, pm, an, cdv, ct, osl, rfl, lk, hcd⟩ := F.ex
  refine ⟨fun s us ws _ h0 hl => ?_, fun _ rz => hrel rz⟩
  obtain rfl : us = [] := List.length_eq_zero_iff.mp h0
  exact .of_eq (h kV doc pm an cdv ct ws hl)

/-! ### the law's end -/
theorem law_callG {P : Program} {w : World} {K : PySem.W.Frag} {mg mb : Str → Option Value} {k : Nat} {fa a : Addr} {fd : FuncData} {x : Str} {sp : Sp} {s₁ : Shared} {vs : List Value} {ns : List Int}
    (KX : K.In s₁.heap) (hns : s₁.heap.Ns mainGlobals mg) (hb : s₁.heap.Ns builtinsNs mb) (hbb : ∀ x : Str, x ≠ "__name__" → mb x = bootBuiltins x) (hlim : s₁.heap.NoLimit) (hg : s₁.gens = #[])
    (ha : s₁.heap.get? a = some { cls := .type "list", data := .seq vs.toArray }) (hi : IntsAre vs ns) (hl : ns.length ≤ sizeLine) (hr : Room k callerA)
    (F : ∀ base : Heap, K.In base → base.Ns mainGlobals mg → FnG P w K mg base CX0 k fa fd [x] sp) (hbind : ∀ (s : Shared) (u : Value), BindsTo s fd ⟨[u], []⟩ [(x, u)])
    (hsp : ∀ H : Hp, Only H → SqL K H a (ns.map V.int) → sp [.ref a] H (fun v _ => v = .bl true) fun _ _ _ => False) :
    codeAny (model P w) callerA (.call (.ref fa) ⟨[.ref a], []⟩) (fun r s' => r = .ok (.ret (.bool true)) ∧ OldK s₁.heap s'.heap ∧ s'.os = s₁.os ∧ AllBare s'.gens) s₁ := by
  have rv := vals_ints hi
  have nv := hi.length
  -- any abstract heap that tracks at most the script
  have main : ∀ H : Hp, Only H → SqL K H a (ns.map V.int) → HOk P w H s₁.heap → (∀ b, H b ≠ none → b = a) → (H a ≠ none → K.lookup a = none) →
      codeAny (model P w) callerA (.call (.ref fa) ⟨[.ref a], []⟩) (fun r s' => r = .ok (.ret (.bool true)) ∧ OldK s₁.heap s'.heap ∧ s'.os = s₁.os ∧ AllBare s'.gens) s₁ := by
    intro H hO hS hok hA hK
    have at_a : ∀ {b : Addr}, H b ≠ none → b = a := fun {b} z => hA b z
    have free : ∀ {b : Addr} {o : Obj}, s₁.heap.get? b = some o → (∀ es ep, o.data = .dict es ep → True) → (b = a → False) → H b = none := fun {b o} _ _ ne => by
      cases q : H b with
      | none => rfl
      | some u => exact (ne (at_a (by rw [q]; simp))).elim
    have kp : ∀ {b : Addr} {o : Obj}, s₁.heap.get? b = some o → H b = none → (hidT s₁.heap H).get? b = some o := fun e n => hidT_get e n
    have dictNs : ∀ {b : Addr} {m : Str → Option Value}, s₁.heap.Ns b m → (hidT s₁.heap H).Ns b m := fun {b m} hN => by
      obtain ⟨o, es, ep, e, d, r⟩ := hN
      refine ⟨o, es, ep, kp e (free e (fun _ _ _ => trivial) fun z => ?_), d, r⟩
      subst z
      rw [ha] at e
      cases e
      cases d
    have inB : K.In (hidT s₁.heap H) := fun b o e => kp (KX b o e) (by
      cases q : H b with
      | none => rfl
      | some u =>
        have z : b = a := at_a (by rw [q]; simp)
        subst z
        rw [hK (by rw [q]; simp)] at e
        cases e)
    have M : Mod K mg (hidT s₁.heap H) := ⟨inB, dictNs hns, ⟨mb, dictNs hb, hbb⟩, let ⟨mc, h1, h2⟩ := hlim; ⟨mc, dictNs h1, h2⟩⟩
    have e0 : Env0 P w K mg (hidT s₁.heap H) callerA [] s₁ H := ⟨rfl, M, fun b o e => of_hidT e, Nat.le_of_eq (hidT_size _ _), trivial, (fun b z => absurd (show b ∈ ([] : List Addr) from z) List.not_mem_nil), hok, .of_eq hg⟩
    refine codeAny_mono ((F _ inB (dictNs hns)).run callerA [] s₁ H ⟨[.ref a], []⟩ [.ref a] [.ref a] _ _ rfl hr e0 (hbind s₁ (.ref a)) (.cons rfl .nil) (hsp H hO hS)) fun r s' h => ?_
    match r, h with
    | .error e, h => exact False.elim h
    | .ok .next, h => exact False.elim h
    | .ok .brk, h => exact False.elim h
    | .ok .cont, h => exact False.elim h
    | .ok (.ret u), ⟨v, H', os, bare, un, hok', r', q⟩ =>
      have q' : v = .bl true := q
      subst q'
      obtain rfl : u = Value.bool true := r'
      refine ⟨rfl, OldK.of_keep fun b o e => ?_, os, bare⟩
      rcases hO b with n | ⟨ob, xs, z⟩
      · exact un.keep b o e n (fun z => absurd (show b ∈ ([] : List Addr) from z) List.not_mem_nil) List.not_mem_nil
      · obtain ⟨e1, _⟩ := hok b _ z
        obtain ⟨e2, _⟩ := hok' b _ (un.frzs b ob _ z)
        rw [e] at e1
        cases e1
        exact e2
  have lenOk : ns.length ≤ sizeLine := hl
  cases hk : K.lookup a with
  | some o =>
    have e := KX a o hk
    rw [ha] at e
    cases e
    exact main (fun _ => none) (fun _ => .inl rfl) (.inr ⟨_, vs.toArray, _, hk, rfl, rfl, rfl, by rw [List.size_toArray, nv]; exact lenOk, by simpa using rv⟩) (fun b u z => by have z' : (none : Option HO) = some u := z; cases z') (fun b z => absurd rfl z) fun z => absurd rfl z
  | none =>
    have eq : ∀ {b : Addr}, b ≠ a → (if b = a then some (HO.frz { cls := .type "list", data := .seq vs.toArray } (.lst (ns.map V.int))) else none) = none := fun h => if_neg h
    refine main (fun b => if b = a then some (.frz { cls := .type "list", data := .seq vs.toArray } (.lst (ns.map V.int))) else none) (fun b => ?_) (.inl (.inr ⟨{ cls := .type "list", data := .seq vs.toArray }, if_pos rfl⟩)) (fun b u z => ?_) (fun b z => ?_) fun _ => hk
    · by_cases hb' : b = a
      · exact .inr ⟨_, _, if_pos hb'⟩
      · exact .inl (eq hb')
    · by_cases hb' : b = a
      · subst hb'
        have z' := (if_pos rfl).symm.trans z
        cases z'
        exact ⟨ha, by rw [List.length_map]; exact lenOk, vs, _, rv, ha⟩
      · have z' := (eq hb').symm.trans z
        cases z'
    · by_cases hb' : b = a
      · exact hb'
      · exact absurd (eq hb') z
/-- the goal that k_head leaves, from the law's promise, the law a def that asks repr -/
theorem walk_ofG {l : PySem.W.OpenLaw} {n k : Nat} {q : Program} {loose : List Str} {XP : (Str → Option Value) → Heap → Prop} {YP : World → Heap → Prop} {d : DefRec} {K : Params → PySem.W.Frag} {sp : World → Sp} {x : Str}
    (hn : l.most = some n) (hn2 : n ≤ sizeLine) (hdf : d.params.defaults = []) (hr : Room k callerA)
    (hY : ∀ (w : World) (h : Heap), YP w h → (K w.params).In h)
    (F : ∀ (w : World) (mg : Str → Option Value) (fa : Addr) (h : Heap), (K w.params).In h → h.Ns mainGlobals mg → mg d.name = some (.ref fa) →
      ∃ fd : FuncData, (∀ (s : Shared) (u : Value), BindsTo s fd ⟨[u], []⟩ [(x, u)]) ∧
        ∀ base : Heap, (K w.params).In base → base.Ns mainGlobals mg → FnG l.prog w (K w.params) mg base CX0 k fa fd [x] (sp w))
    (hsp : ∀ (w : World) (H : Hp) (a : Addr) (ns : List Int), ns.length ≤ n → Only H → SqL (K w.params) H a (ns.map V.int) → sp w [.ref a] H (fun v _ => v = .bl true) fun _ _ _ => False) :
    PySem.W.WalkO q loose XP YP l.row.toRowW d [] (fun f vs => PySem.call f vs) := by
  refine Att.attach_call hn hdf fun w s₀ s₁ mg mb fa o pm cd doc a vs ns G Y _ _ _ hmg hobj hints hlen hg => ?_
  have inK := hY w _ Y
  obtain ⟨fd, hb, hF⟩ := F w mg fa _ inK G.T.g hmg
  exact law_callG inK G.T.g G.T.b G.T.builtins G.T.nolimit hg hobj hints (Nat.le_trans hlen hn2) hr hF hb fun H hO hS => hsp w H a ns hlen hO hS
end L2
/-! {k: v for a in .. for b in ..}, and name = {..}: dict comprehensions of two clauses; a dict comprehension given to a local name. -/
namespace L2
open PySem PySem.Spec PyProof.Rows
/-- in each block that a comprehension of X runs -/
abbrev InBlk (X : Cx) (scope : Scope) (J : Cx → Prop) : Prop := ∀ (s : Shared) (H : Hp) (C : Addr) (cl : List (Str × Addr)) (fp : List Addr), J (X.blk s H scope (compEnvC scope cl C X.env) fp)

/-! ### the machine's turns -/
section
variable {prog : Program} {w : World} {A : Around} {R : Result → Shared → Prop} {s : Shared} {kx vx t0 i0 t1 i1 : Expr} {ifs0 ifs1 : List Expr} {scope : Scope} {pos : Pos} {it : Value} {D : Addr} {env : Env}
abbrev dcE (kx vx t0 i0 t1 i1 : Expr) (ifs0 ifs1 : List Expr) (scope : Scope) (pos : Pos) : Expr := .DictComp kx vx [⟨t0, i0, ifs0, 0⟩, ⟨t1, i1, ifs1, 0⟩] scope pos
abbrev testsIn (ifs : List Expr) (env : Env) : Sem Bool := forIn ifs true fun c r => if r = true then do let ok ← isTrue c env (eval c env); pure (ForInStep.yield ok) else pure (ForInStep.yield r)
theorem dcTurn_out (acc : Value) : compTurn (dcE kx vx t0 i0 t1 i1 ifs0 ifs1 scope pos) 0 it acc env = (do
    standAt i0.pos
    match ← pyNext it with
    | none => pure (.done .next)
    | some v =>
      letOwnedTupleGo t0 it v
      assign t0 env v
      let ok ← testsIn ifs0 env
      if ok then
        let x ← eval i1 env
        standAt i1.pos
        let x ← foldedSetIterable i1 env x
        let _ ← runOwn (.compStart (dcE kx vx t0 i0 t1 i1 ifs0 ifs1 scope pos) 1 (← holding [x] (pyIter x)) acc env) env
      again (.compLoop (dcE kx vx t0 i0 t1 i1 ifs0 ifs1 scope pos) 0 it acc env)) := by rfl
theorem dcTurn_in : compTurn (dcE kx vx t0 i0 t1 i1 ifs0 ifs1 scope pos) 1 it (.ref D) env = (do
    standAt i1.pos
    match ← pyNext it with
    | none => pure (.done .next)
    | some v =>
      letOwnedTupleGo t1 it v
      assign t1 env v
      let ok ← testsIn ifs1 env
      if ok then
        (do
          let kv ← eval kx env
          let vv ← holding [kv] (eval vx env)
          standAt { kx.pos with endLine := vx.pos.endLine, endCol := vx.pos.endCol }
          holding [kv, vv] (dictSet D kv vv))
      again (.compLoop (dcE kx vx t0 i0 t1 i1 ifs0 ifs1 scope pos) 1 it (.ref D) env)) := by rfl
abbrev upNoted (prog : Program) (w : World) (A : Around) (env : Env) (R : Result → Shared → Prop) : Value → Shared → Prop := notedBy (model prog w) A env fun e s' => R (.error e) s'
/-- the outer loop -/
theorem dcLoop_out {acc : Value} (hs : ∀ x, foldedSetIterable i1 env x = pure x) (I : Nat → Shared → Prop)
    (turn : ∀ n s, I n s → wpAny (model prog w) A (pyNext it) (fun r s1 => match r with
      | none => R (.ok .next) s1
      | some v => wpAny (model prog w) A (letOwnedTupleGo t0 it v) (fun _ s2 => wpAny (model prog w) A (assign t0 env v) (fun _ s3 => wpAny (model prog w) A (testsIn ifs0 env) (fun ok s4 =>
          if ok = true then wpAny (model prog w) A (eval i1 env) (fun x s5 => wpAny (model prog w) A (pyIter x) (fun it1 s6 =>
            codeAny (model prog w) A (.compStart (dcE kx vx t0 i0 t1 i1 ifs0 ifs1 scope pos) 1 it1 acc env) (fun r s' => match r with
              | .ok _ => ∃ m, m < n ∧ I m s'
              | .error _ => False) s6) (upNoted prog w A env R) s5) (upNoted prog w A env R) s4
          else ∃ m, m < n ∧ I m s4) (upNoted prog w A env R) s3) (upNoted prog w A env R) s2) (upNoted prog w A env R) s1) (upNoted prog w A env R) s)
    (n : Nat) (h : I n s) : codeAny (model prog w) A (.compLoop (dcE kx vx t0 i0 t1 i1 ifs0 ifs1 scope pos) 0 it acc env) R s := by
  refine codeAny_loop rfl I (fun m u hu => ?_) n h
  show wpAny _ A ((compTurn (dcE kx vx t0 i0 t1 i1 ifs0 ifs1 scope pos) 0 it acc env).onRaise (fun x => do noteFrame x env; theTreesLotGoes x)) _ _ u
  refine wpAny_noted ?_
  rw [dcTurn_out]
  refine wpAny_bind (wpAny_standAt (wpAny_bind (wpAny_mono (turn m u hu) (fun r s1 h1 => ?_) fun _ _ z => z)))
  match r, h1 with
  | none, h1 => exact wpAny_pure h1
  | some v, h1 =>
    refine wpAny_bind (wpAny_mono h1 (fun _ s2 h2 => wpAny_bind (wpAny_mono h2 (fun _ s3 h3 => wpAny_bind (wpAny_mono h3 (fun ok s4 h4 => ?_) fun _ _ z => z)) fun _ _ z => z)) fun _ _ z => z)
    match ok, h4 with
    | false, h4 => exact wpAny_pure ⟨rfl, h4⟩
    | true, h4 =>
      refine wpAny_bind (wpAny_mono h4 (fun x s5 h5 => wpAny_bind (wpAny_standAt (wpAny_bind (wpAny_of_eq (hs x) (wpAny_bind (wpAny_holding (wpAny_mono h5 (fun it1 s6 h6 => ?_) fun _ _ z => z))))))) fun _ _ z => z)
      refine wpAny_bind (wpAny_runOwn ?_)
      rw [Around.mark_none]
      refine codeAny_mono h6 fun q s' hq => ?_
      match q, hq with
      | .error e, hq => exact hq.elim
      | .ok f, hq => first | exact wpAny_pure ⟨rfl, hq⟩ | exact wpAny_bind (wpAny_pure (wpAny_pure ⟨rfl, hq⟩))
/-- the inner loop -/
theorem dcLoop_in (I : Nat → Shared → Prop)
    (turn : ∀ n s, I n s → wpAny (model prog w) A (pyNext it) (fun r s1 => match r with
      | none => R (.ok .next) s1
      | some v => wpAny (model prog w) A (letOwnedTupleGo t1 it v) (fun _ s2 => wpAny (model prog w) A (assign t1 env v) (fun _ s3 => wpAny (model prog w) A (testsIn ifs1 env) (fun ok s4 =>
          if ok = true then wpAny (model prog w) A (eval kx env) (fun kv s5 => wpAny (model prog w) A (eval vx env) (fun vv s6 =>
            wpAny (model prog w) A (dictSet D kv vv) (fun _ s7 => ∃ m, m < n ∧ I m s7) (upNoted prog w A env R) s6) (upNoted prog w A env R) s5) (upNoted prog w A env R) s4
          else ∃ m, m < n ∧ I m s4) (upNoted prog w A env R) s3) (upNoted prog w A env R) s2) (upNoted prog w A env R) s1) (upNoted prog w A env R) s)
    (n : Nat) (h : I n s) : codeAny (model prog w) A (.compLoop (dcE kx vx t0 i0 t1 i1 ifs0 ifs1 scope pos) 1 it (.ref D) env) R s := by
  refine codeAny_loop rfl I (fun m u hu => ?_) n h
  show wpAny _ A ((compTurn (dcE kx vx t0 i0 t1 i1 ifs0 ifs1 scope pos) 1 it (.ref D) env).onRaise (fun x => do noteFrame x env; theTreesLotGoes x)) _ _ u
  refine wpAny_noted ?_
  rw [dcTurn_in]
  refine wpAny_bind (wpAny_standAt (wpAny_bind (wpAny_mono (turn m u hu) (fun r s1 h1 => ?_) fun _ _ z => z)))
  match r, h1 with
  | none, h1 => exact wpAny_pure h1
  | some v, h1 =>
    refine wpAny_bind (wpAny_mono h1 (fun _ s2 h2 => wpAny_bind (wpAny_mono h2 (fun _ s3 h3 => wpAny_bind (wpAny_mono h3 (fun ok s4 h4 => ?_) fun _ _ z => z)) fun _ _ z => z)) fun _ _ z => z)
    match ok, h4 with
    | false, h4 => exact wpAny_pure ⟨rfl, h4⟩
    | true, h4 =>
      exact wpAny_bind (wpAny_bind (wpAny_mono h4 (fun kv s5 h5 => wpAny_bind (wpAny_holding (wpAny_mono h5 (fun vv s6 h6 => wpAny_bind (wpAny_standAt (wpAny_holding (wpAny_mono h6 (fun _ s7 h7 => wpAny_pure ⟨rfl, h7⟩) fun _ _ z => z)))) fun _ _ z => z))) fun _ _ z => z))
/-- the second clause's start -/
theorem dcStart_in {acc : Value} (h0 : codeAny (model prog w) A (.compLoop (dcE kx vx t0 i0 t1 i1 ifs0 ifs1 scope pos) 1 it acc env) R s)
    (h : wpAny (model prog w) A (pyIter it) (fun it' s' => codeAny (model prog w) A (.compLoop (dcE kx vx t0 i0 t1 i1 ifs0 ifs1 scope pos) 1 it' acc env) R s') (upNoted prog w A env R) s) :
    codeAny (model prog w) A (.compStart (dcE kx vx t0 i0 t1 i1 ifs0 ifs1 scope pos) 1 it acc env) R s := by
  refine codeAny_of_tree ?_
  show wpAny _ _ ((compStart (dcE kx vx t0 i0 t1 i1 ifs0 ifs1 scope pos) 1 it acc env).onRaise (fun x => do noteFrame x env; standAt theWindowsPlace)) _ _ s
  refine wpAny_notedAt ?_
  unfold compStart
  show wpAny _ _ (ask >>= _) _ _ s
  refine wpAny_bind (wpAny_askSetting (wpAny_ite ?_))
  split
  · first
      | exact wpAny_bind (wpAny_pure (wpAny_pure (And.intro rfl h0)))
      | exact wpAny_pure (And.intro rfl h0)
  · first
      | exact wpAny_bind (wpAny_rule (wpAny_bind (wpAny_standAt (wpAny_bind (wpAny_mono h (fun it' s' h' => wpAny_pure (And.intro rfl h')) fun _ _ x => x)))))
      | (refine wpAny_bind (wpAny_rule ?_); show wpAny _ _ (standAt i1.pos >>= _) _ _ s; exact wpAny_bind (wpAny_standAt (wpAny_bind (wpAny_mono h (fun it' s' h' => wpAny_pure (And.intro rfl h')) fun _ _ x => x))))
end
section
variable {X : Cx}
/-- {k: v for target in iter if .. for target1 in iter1 if ..}: vs the block's names, vs1 those of the second target -/
def tDc2 (wi : TI) (g : TG) (tt : TT) (wi1 : TI) (g1 : TG) (tt1 : TT) (tk tv : TE) (vs vs1 : List Nat) : TE := fun σ H Q => wi σ H fun J H1 => ∀ D, H1 D = none → ∃ W : Nat → Nat → Hp → Prop, (∃ m, W 0 m (upd H1 D (.dK []))) ∧ ∀ i m H, W i m H →
  (J.stop i H ∧ Q (.ref D) H) ∨ (J.go i H ∧ ∃ Nx : Hp → Prop, (∀ H', Nx H' → ∃ m', m' < m ∧ W (i + 1) m' H') ∧ ∀ x H', J.yld i H x H' → g x (wipe σ vs) H' fun σ2 H2 => wipe σ2 vs = wipe σ vs ∧ tt σ2 H2 fun b H3 =>
    if b = true then wi1 σ2 H3 fun J1 H4 => ∃ W1 : Nat → Nat → Hp → Prop, (∃ m, W1 0 m H4) ∧ ∀ j k H, W1 j k H →
      (J1.stop j H ∧ Nx H) ∨ (J1.go j H ∧ ∃ Nx1 : Hp → Prop, (∀ H', Nx1 H' → ∃ k', k' < k ∧ W1 (j + 1) k' H') ∧ ∀ x H', J1.yld j H x H' → g1 x (wipe σ2 vs1) H' fun σ3 H5 => wipe σ3 vs1 = wipe σ2 vs1 ∧ tt1 σ3 H5 fun b H6 =>
        if b = true then tk σ3 H6 fun y H7 => tv σ3 H7 fun z H8 => ∃ kvs q, y = kV q ∧ H8 D = some (.dK kvs) ∧ kvs.length < sizeLine ∧ Nx1 (upd H8 D (.dK (putK kvs q z))) else Nx1 H6)
    else Nx H3)
theorem dc2_core {pins : List (Addr × Obj)} {s : Shared} {σ : St} {H : Hp} {Q : VK} {kx vx tg iter tg1 iter1 : Expr} {ifs ifs1 : List Expr} {scope : Scope} {own : List (Str × Nat)} {vs1 : List Nat} {pos pos' : Pos} {wi wi1 : TI} {g g1 : TG} {tt tt1 : TT} {tk tv : TE} {use : Option (Value → Sem Unit)} {Qf : Value → Shared → Prop}
    (hc : X.calm = true) (hN : X.N.Nodup) (I : Inv X pins σ H s) (hi : PI X tg iter wi) (ok : BlkOk X.N X.env.scope scope own) (hv : ∀ i ∈ vs1, i ∈ own.map (·.2)) (hg : InBlk X scope (PG · tg g)) (ht : InBlk X scope (PTs · ifs tt))
    (hk : InBlk X scope (PE · kx tk)) (he : InBlk X scope (PE · vx tv)) (hs : ∀ x, foldedSetIterable iter X.env x = pure x) (hi1 : InBlk X scope (PI · tg1 iter1 wi1)) (hg1 : InBlk X scope (PG · tg1 g1)) (ht1 : InBlk X scope (PTs · ifs1 tt1))
    (hs1 : ∀ env x, foldedSetIterable iter1 env x = pure x) (h : tDc2 wi g tt wi1 g1 tt1 tk tv (own.map (·.2)) vs1 σ H Q)
    (hRR : ∀ D C s' m H', Inv X pins σ H' s' → Q (.ref D) H' → s'.heap.Ns C m → FpOk X pins H' C → compPost (model X.prog X.w) X.A X.xe use Qf (.ref D) C (.ok .next) s') :
    wpAny (model X.prog X.w) X.A (comprehension (dcE kx vx tg iter tg1 iter1 ifs ifs1 scope pos) scope X.env pos' newDict false (eval iter X.env) use) Qf X.xe s := by
  have cl0 : ∀ y ∈ scope.names, y.2 = .free → ∃ c, X.env.cells.lookup y.1 = some c := fun y hy e => (ok.free y hy e).elim (fun k => I.ok.has _ (.inl k)) fun k => I.ok.has _ (.inr k)
  refine wpAny_comprehension_free (use := use) rfl hs (closure_ok cl0) ok.kind (fun y hy e => by rw [ok.uniq y hy, e]) (thn (hi.run pins s σ H _ I h) fun xv s1 hx => thn hx fun itv s2 h2 => ?_)
  obtain ⟨it, fp, tn, J, H2, e, I2, T, st2, f2, q⟩ := h2
  subst e
  refine wpAny_newObj_type (newEnv_comp ?_)
  generalize hD : s2.heap.objs.size = D
  have noD : H2 D = none := I2.hok.fresh (Nat.le_of_eq hD)
  obtain ⟨W, ⟨m0, w0⟩, turn⟩ := q D noD
  -- the dict that is made
  generalize es3 : ({ s2 with heap := s2.heap.push { cls := .type "dict", data := .dict #[] } } : Shared) = s3
  have hp3 : s3.heap = s2.heap.push { cls := .type "dict", data := .dict #[] } := by rw [← es3]
  have keep23 : ∀ b o, s2.heap.get? b = some o → s3.heap.get? b = some o := fun b o e => by rw [hp3]; exact Heap.get?_push_of_some _ e
  have I3 : Inv X pins σ (upd H2 D (.dK [])) s3 := by
    rw [← es3]
    refine I2.laid (t' := s2.toks) (fun b o e => Heap.get?_push_of_some _ e) (Nat.le_of_eq hD) ?_
    rw [← hD]
    exact dk_empty s2.heap I2.big
  have small : ∀ b ∈ fp, b < s2.heap.objs.size := fun b hb => let ⟨o, e, _⟩ := T.obj _ _ st2 b hb; Heap.lt_size e
  have fp3 : ∀ b ∈ fp, FpOk X pins (upd H2 D (.dK [])) b ∧ b < s3.heap.objs.size := fun b hb => by
    have lt := small b hb
    refine ⟨⟨?_, (f2 b hb).2⟩, by rw [hp3, Heap.size_push]; exact Nat.lt_succ_of_lt lt⟩
    rw [upd_ne (by rw [← hD]; exact Nat.ne_of_lt lt)]
    exact (f2 b hb).1
  have st3 : tn 0 s3.heap := T.keep _ _ _ st2 fun b _ o e => keep23 b o e
  have I4 := block_start I3 ok hN fp3
  have pg := hg s3 (upd H2 D (.dK [])) s3.heap.objs.size (cellsFrom (s3.heap.objs.size + 1) scope.names (cloFrom X.env.cells scope.names [])) fp
  have pt := ht s3 (upd H2 D (.dK [])) s3.heap.objs.size (cellsFrom (s3.heap.objs.size + 1) scope.names (cloFrom X.env.cells scope.names [])) fp
  have pk := hk s3 (upd H2 D (.dK [])) s3.heap.objs.size (cellsFrom (s3.heap.objs.size + 1) scope.names (cloFrom X.env.cells scope.names [])) fp
  have pe := he s3 (upd H2 D (.dK [])) s3.heap.objs.size (cellsFrom (s3.heap.objs.size + 1) scope.names (cloFrom X.env.cells scope.names [])) fp
  have qi := hi1 s3 (upd H2 D (.dK [])) s3.heap.objs.size (cellsFrom (s3.heap.objs.size + 1) scope.names (cloFrom X.env.cells scope.names [])) fp
  have qg := hg1 s3 (upd H2 D (.dK [])) s3.heap.objs.size (cellsFrom (s3.heap.objs.size + 1) scope.names (cloFrom X.env.cells scope.names [])) fp
  have qt := ht1 s3 (upd H2 D (.dK [])) s3.heap.objs.size (cellsFrom (s3.heap.objs.size + 1) scope.names (cloFrom X.env.cells scope.names [])) fp
  show codeAny _ _ (.compStart (dcE kx vx tg iter tg1 iter1 ifs ifs1 scope pos) 0 (.ref it) (.ref D) (compEnvC scope (cellsFrom (s3.heap.objs.size + 1) scope.names (cloFrom X.env.cells scope.names [])) s3.heap.objs.size X.env)) (compPost (model X.prog X.w) X.A X.xe use Qf (.ref D) s3.heap.objs.size) { s3 with heap := pushCells (s3.heap.push { cls := .type "dict", data := .dict #[] }) scope.names }
  have fpN : ∀ b ∈ fp, (upd H2 D (.dK [])) b = none := fun b hb => (fp3 b hb).1.1
  generalize ece : compEnvC scope (cellsFrom (s3.heap.objs.size + 1) scope.names (cloFrom X.env.cells scope.names [])) s3.heap.objs.size X.env = ce at I4 pg pt pk pe qi qg qt ⊢
  have eL : ce.locals = s3.heap.objs.size := by subst ece; rfl
  generalize eH3 : upd H2 D (.dK []) = H3 at I3 I4 pg pt pk pe qi qg qt w0 fpN fp3
  generalize es4 : ({ s3 with heap := pushCells (s3.heap.push { cls := .type "dict", data := .dict #[] }) scope.names } : Shared) = s4 at I4 ⊢
  have st4 : tn 0 s4.heap := T.keep _ _ _ st3 fun b _ o e => by rw [← es4]; exact pushCells_keeps _ _ _ _ (Heap.get?_push_of_some _ e)
  have stat : ∀ {σ' : St} {H' : Hp} {s' : Shared}, Inv (X.blk s3 H3 scope ce fp) [] σ' H' s' → (∀ b ∈ fp, H' b = none) → ∀ b ∈ fp, FpOk (X.blk s3 H3 scope ce fp) [] H' b := fun {σ' H' s'} I' hn b hb =>
    ⟨hn b hb, (I'.ok.exf b hb).1, I'.ok.exfs b hb, .inl hb, fun x c e => (I'.ok.exf b hb).2 x c e, fun p hp => absurd (show p ∈ ([] : List (Addr × Obj)) ++ [] from hp) (by simp)⟩
  have loop : codeAny (model X.prog X.w) X.A (.compLoop (dcE kx vx tg iter tg1 iter1 ifs ifs1 scope pos) 0 (.ref it) (.ref D) ce) (compPost (model X.prog X.w) X.A X.xe use Qf (.ref D) s3.heap.objs.size) s4 := by
    refine dcLoop_out (hs1 ce) (fun n s' => ∃ i H', Inv (X.blk s3 H3 scope ce fp) [] (wipe σ (own.map (·.2))) H' s' ∧ tn i s'.heap ∧ (∀ b ∈ fp, H' b = none) ∧ W i n H') ?_ m0 ⟨0, H3, I4, st4, fpN, w0⟩
    rintro n s5 ⟨i, H5, I5, st5, n5, w5⟩
    rcases turn i n H5 w5 with ⟨stop, qq⟩ | ⟨go, Nx, hNx, step⟩
    · refine thnF (T.done (X.blk s3 H3 scope ce fp) rfl rfl rfl hc i [] s5 _ H5 (fun _ _ => False) I5 (stat I5 n5) st5 stop) fun r s6 ⟨hr, I6⟩ => ?_
      subst hr
      have I7 : Inv X pins σ H5 s6 := I3.call' (ch := fp) I6.os I6.base I6.hok I6.bare fun b hb => ⟨(fp3 b hb).1.2.2.2.1, (fp3 b hb).1.2.1, (fp3 b hb).1.2.2.2.2.1, (fp3 b hb).1.2.2.2.2.2⟩
      have nC : H5 s3.heap.objs.size = none := by
        have z : H5 ce.locals = none := I6.free
        rwa [eL] at z
      obtain ⟨m, hn, _⟩ := I6.loc
      have hn : s6.heap.Ns ce.locals m := hn
      rw [eL] at hn
      exact hRR D s3.heap.objs.size s6 m H5 I7 qq hn (I3.fpOk (Nat.le_refl _) nC)
    · refine thnF (T.item (X.blk s3 H3 scope ce fp) rfl rfl rfl hc i [] s5 _ H5 (fun _ _ => False) I5 (stat I5 n5) st5 go) fun r s6 ⟨u, hr, h6⟩ => ?_
      subst hr
      refine thnF h6 fun _ s7 ⟨x, H7, I7, r7, y7, st7, n7⟩ => ?_
      refine thnF (pg.run _ s7 _ H7 x u _ (I7.pinned (stat I7 n7) (T.obj _ _ st7)) r7 (step x H7 y7)) fun _ s8 ⟨σ8, H8, I8, hw8, q8⟩ => ?_
      refine thnF (pt.run _ s8 σ8 H8 _ I8 q8) fun b s9 ⟨H9, I9, q9⟩ => ?_
      -- how the outer turn ends
      have fin : ∀ {σ9 : St} {s' : Shared} {H' : Hp}, Inv (X.blk s3 H3 scope ce fp) ([] ++ pinsAt fp s7.heap) σ9 H' s' → (wipe σ (own.map (·.2))).length = σ9.length → (∀ (j : Nat) v, (wipe σ (own.map (·.2)))[j]? = some (some v) → σ9[j]? = some (some v)) → Nx H' →
          ∃ m, m < n ∧ ∃ i H', Inv (X.blk s3 H3 scope ce fp) [] (wipe σ (own.map (·.2))) H' s' ∧ tn i s'.heap ∧ (∀ b ∈ fp, H' b = none) ∧ W i m H' := fun {σ9 s' H'} I' hl hkn nx => by
        obtain ⟨m', hm, w'⟩ := hNx H' nx
        have pinned : ∀ b ∈ fp, ∀ o, s7.heap.get? b = some o → s'.heap.get? b = some o ∧ H' b = none := fun b hb o e => by
          have z := I'.pin (b, o) (List.mem_append_right _ (List.mem_append_right _ (mem_pinsAt hb e)))
          exact ⟨z.1, z.2.1⟩
        refine ⟨m', hm, i + 1, H', (I'.unpinned (pins := [])).weak hl hkn, T.keep _ _ _ st7 fun b hb o e => (pinned b hb o e).1, fun b hb => ?_, w'⟩
        obtain ⟨o, e, _⟩ := T.obj _ _ st7 b hb
        exact (pinned b hb o e).2
      have len8 : (wipe σ (own.map (·.2))).length = σ8.length := by rw [← hw8, wipe_length]
      have know8 : ∀ (j : Nat) v, (wipe σ (own.map (·.2)))[j]? = some (some v) → σ8[j]? = some (some v) := fun j v e => by
        rw [← hw8] at e
        exact (wipe_some e).1
      have know9 : ∀ (j : Nat) v, (wipe σ (own.map (·.2)))[j]? = some (some v) → (wipe σ8 vs1)[j]? = some (some v) := fun j v e => by
        rw [← hw8] at e
        obtain ⟨e1, e2⟩ := wipe_some e
        rw [wipe_out fun z => e2 (hv j z)]
        exact e1
      match b, q9 with
      | false, q9 => exact fin I9 len8 know8 q9
      | true, q9 =>
        refine thnF (qi.run _ s9 σ8 H9 _ I9 q9) fun xv s10 hx => thnF hx fun itv s11 h11 => ?_
        obtain ⟨it1, fp1, tn1, J1, H11, e1, I11, T1, st11, f11, W1, ⟨m1, w1⟩, turn1⟩ := h11
        subst e1
        have stat1 : ∀ {H' : Hp}, (∀ b ∈ fp1, H' b = none) → ∀ b ∈ fp1, FpOk (X.blk s3 H3 scope ce fp) ([] ++ pinsAt fp s7.heap) H' b := fun hn b hb => ⟨hn b hb, (f11 b hb).2⟩
        have inner : codeAny (model X.prog X.w) X.A (.compLoop (dcE kx vx tg iter tg1 iter1 ifs ifs1 scope pos) 1 (.ref it1) (.ref D) ce)
            (fun r s' => match r with
              | .ok _ => ∃ m, m < n ∧ ∃ i H', Inv (X.blk s3 H3 scope ce fp) [] (wipe σ (own.map (·.2))) H' s' ∧ tn i s'.heap ∧ (∀ b ∈ fp, H' b = none) ∧ W i m H'
              | .error _ => False) s11 := by
          refine dcLoop_in (fun k s' => ∃ j H', Inv (X.blk s3 H3 scope ce fp) ([] ++ pinsAt fp s7.heap) (wipe σ8 vs1) H' s' ∧ tn1 j s'.heap ∧ (∀ b ∈ fp1, H' b = none) ∧ W1 j k H') ?_ m1 ⟨0, H11, I11.weak (wipe_length _ _) (fun j v e => (wipe_some e).1), st11, fun b hb => (f11 b hb).1, w1⟩
          rintro k s12 ⟨j, H12, I12, st12, n12, w12⟩
          rcases turn1 j k H12 w12 with ⟨stop1, nx1⟩ | ⟨go1, Nx1, hNx1, step1⟩
          · refine thnF (T1.done (X.blk s3 H3 scope ce fp) rfl rfl rfl hc j _ s12 (wipe σ8 vs1) H12 (fun _ _ => False) I12 (stat1 n12) st12 stop1) fun r s13 ⟨hr, I13⟩ => ?_
            subst hr
            exact fin I13 (len8.trans (wipe_length σ8 vs1).symm) know9 nx1
          · refine thnF (T1.item (X.blk s3 H3 scope ce fp) rfl rfl rfl hc j _ s12 (wipe σ8 vs1) H12 (fun _ _ => False) I12 (stat1 n12) st12 go1) fun r s13 ⟨u1, hr, h13⟩ => ?_
            subst hr
            refine thnF h13 fun _ s14 ⟨x1, H14, I14, r14, y14, st14, n14⟩ => ?_
            refine thnF (qg.run _ s14 (wipe σ8 vs1) H14 x1 u1 _ (I14.pinned (stat1 n14) (T1.obj _ _ st14)) r14 (step1 x1 H14 y14)) fun _ s15 ⟨σ15, H15, I15, hw15, q15⟩ => ?_
            refine thnF (qt.run _ s15 σ15 H15 _ I15 q15) fun b1 s16 ⟨H16, I16, q16⟩ => ?_
            have fin1 : ∀ {s' : Shared} {H' : Hp}, Inv (X.blk s3 H3 scope ce fp) (([] ++ pinsAt fp s7.heap) ++ pinsAt fp1 s14.heap) σ15 H' s' → Nx1 H' → ∃ m, m < k ∧ ∃ j H', Inv (X.blk s3 H3 scope ce fp) ([] ++ pinsAt fp s7.heap) (wipe σ8 vs1) H' s' ∧ tn1 j s'.heap ∧ (∀ b ∈ fp1, H' b = none) ∧ W1 j m H' := fun {s' H'} I' nx => by
              obtain ⟨m', hm, w'⟩ := hNx1 H' nx
              have pinned : ∀ b ∈ fp1, ∀ o, s14.heap.get? b = some o → s'.heap.get? b = some o ∧ H' b = none := fun b hb o e => by
                have z := I'.pin (b, o) (List.mem_append_right _ (List.mem_append_right _ (mem_pinsAt hb e)))
                exact ⟨z.1, z.2.1⟩
              refine ⟨m', hm, j + 1, H', I'.unpinned.weak (by rw [← hw15, wipe_length]) (fun j v e => by rw [← hw15] at e; exact (wipe_some e).1), T1.keep _ _ _ st14 fun b hb o e => (pinned b hb o e).1, fun b hb => ?_, w'⟩
              obtain ⟨o, e, _⟩ := T1.obj _ _ st14 b hb
              exact (pinned b hb o e).2
            match b1, q16 with
            | false, q16 => exact fin1 I16 q16
            | true, q16 =>
              refine thnF (pk.run _ s16 σ15 H16 _ I16 q16) fun z s17 ⟨yk, H17, I17, r17, q17⟩ => ?_
              refine thnF (pe.run _ s17 σ15 H17 _ I17 q17) fun z2 s18 ⟨yv, H18, I18, r18, kvs, qk, ek, hD18, hz18, nx⟩ => ?_
              subst ek
              exact d_dictSet (X := X.blk s3 H3 scope ce fp) I18 hD18 hz18 r17 r18 fun s19 I19 => fin1 I19 nx
        exact dcStart_in inner (T1.self X.A 0 _ _ _ st11 inner)
  exact codeAny_compStart_dict loop (T.self X.A 0 _ _ _ st4 loop)
/-- {..} of two clauses as a value -/
theorem pe_dc2 {kx vx tg iter tg1 iter1 : Expr} {ifs ifs1 : List Expr} {scope : Scope} {own : List (Str × Nat)} {vs1 : List Nat} {pos : Pos} {wi wi1 : TI} {g g1 : TG} {tt tt1 : TT} {tk tv : TE} (hc : X.calm = true) (hN : X.N.Nodup) (hi : PI X tg iter wi) (ok : BlkOk X.N X.env.scope scope own) (hv : ∀ i ∈ vs1, i ∈ own.map (·.2))
    (hg : InBlk X scope (PG · tg g)) (ht : InBlk X scope (PTs · ifs tt)) (hi1 : InBlk X scope (PI · tg1 iter1 wi1)) (hg1 : InBlk X scope (PG · tg1 g1)) (ht1 : InBlk X scope (PTs · ifs1 tt1)) (hk : InBlk X scope (PE · kx tk)) (he : InBlk X scope (PE · vx tv))
    (hs : ∀ x, foldedSetIterable iter X.env x = pure x := by intro _; rfl) (hs1 : ∀ env x, foldedSetIterable iter1 env x = pure x := by intro _ _; rfl) :
    PE X (.DictComp kx vx [⟨tg, iter, ifs, 0⟩, ⟨tg1, iter1, ifs1, 0⟩] scope pos) (tDc2 wi g tt wi1 g1 tt1 tk tv (own.map (·.2)) vs1) := by
  constructor
  intro pins s σ H Q I h
  rw [arm_eval_DictComp]
  refine dc2_core hc hN I hi ok hv hg ht hk he hs hi1 hg1 ht1 hs1 h fun D C s' m H' I' q hn f => ⟨m, hn, fun h'' sb => ?_⟩
  obtain ⟨f0, f1, f2, f3, f4, f5⟩ := f
  exact ⟨.ref D, H', I'.turned (t' := s'.toks) (fun b o hb e => (sb.2 b hb).trans e) f0 f1 f3 f4 f5, rfl, q⟩
/-- name = {..} on one line, the name a local -/
theorem ps_setDc {i : Nat} {y : Str} {py : Pos} {kx vx tg iter : Expr} {ifs : List Expr} {scope : Scope} {own : List (Str × Nat)} {pos spos : Pos} {wi : TI} {g : TG} {tt : TT} {tk tv : TE} (hc : X.calm = true) (hN : X.N.Nodup) (hy : X.N[i]? = some y) (hyl : X.env.scope.names.lookup y = some .local)
    (hsw : swapsWith (.DictComp kx vx [⟨tg, iter, ifs, 0⟩] scope pos) (some (.Name y py)) spos.line X.env = pure true) (hi : PI X tg iter wi) (ok : BlkOk X.N X.env.scope scope own)
    (hg : InBlk X scope (PG · tg g)) (ht : InBlk X scope (PTs · ifs tt)) (hk : InBlk X scope (PE · kx tk)) (he : InBlk X scope (PE · vx tv)) (hs : ∀ x, foldedSetIterable iter X.env x = pure x := by intro _; rfl) :
    PS X (.Assign [.Name y py] (.DictComp kx vx [⟨tg, iter, ifs, 0⟩] scope pos) spos) (tAsg (tDc wi g tt tk tv (own.map (·.2))) (gName i)) := by
  constructor
  intro pins s σ H D I h
  rw [exec_Assign_Name_used _ _ _ _ hsw]
  refine wpAny_bind (wpAny_standAt (wpAny_bind ?_))
  show wpAny _ X.A (do let _ ← comprehension (.DictComp kx vx [⟨tg, iter, ifs, 0⟩] scope pos) scope X.env (firstIterPos [⟨tg, iter, ifs, 0⟩] pos) newDict false (eval iter X.env) (some (assign (.Name y py) X.env))) _ _ s
  have h' : tDc wi g tt tk tv (own.map (·.2)) σ H (fun x H1 => gName i x σ H1 D.nx) := h
  refine wpAny_bind (thn (dc_core (Qf := fun _ s' => SP X pins D .next s') hc hN I hi ok hg ht hk he hs h' fun L C s' m H' I' q hn f => ?_) fun _ s' hq => wpAny_pure (wpAny_pure hq))
  show wpAny _ _ (assign (.Name y py) X.env (.ref L)) _ _ _
  obtain ⟨f0, f1, f2, f3, f4, f5⟩ := f
  refine wpAny_assign_Name (store_ok2 (v := V.ref L) I' hN hy (.inl hyl) rfl (fun s2 I2 ⟨a, sb, ha⟩ => ?_) (.inr hyl))
  have ne : C ≠ a := by
    rcases ha with z | z
    · rw [z]; exact f1
    · exact fun e => f4 y a z e.symm
  exact ⟨m, hn.sameBut sb ne, fun h3 sb3 => ⟨_, H', I2.turned (t' := s2.toks) (fun b o hb e => (sb3.2 b hb).trans e) f0 f1 f3 f4 f5, q⟩⟩
/-- name = {..}: the model stores it within the block's frame -/
theorem sw_trueD {kx vx : Expr} {gs : List Comprehension} {scope : Scope} {pos py : Pos} {y : Str} {l : Nat} {env : Env} (hk : env.scope.kind = .function) (hy : env.scope.names.lookup y = some .local) (hl : (py.line == pos.line) = true)
    (ha : (scope.names.any fun (n, k) => n == y && (k == .local || k == .cell)) = false) : swapsWith (.DictComp kx vx gs scope pos) (some (.Name y py)) l env = pure true := by
  have ky : env.kindOf y = some .local := hy
  have hb : env.blockKind = .function := by unfold Env.blockKind; rw [hk]; rfl
  unfold swapsWith
  simp only [hb, ky, ha, Expr.pos, hl]
  rfl
end
end L2
/-! Comprehensions over lists of ints whose steps store nothing but new objects; dicts whose keys are ints; equality of lists of ints as data. -/
namespace L2
open PySem PySem.Spec PyProof.Rows
/-! ### heaps -/
theorem Same.new {H : Hp} {p : Addr} {o : HO} (h : H p = none) : Same H (upd H p o) := fun b u e => by
  rw [upd_ne (ne_of_none e h)]
  exact e
theorem Same.put {H H' : Hp} {p : Addr} {o : HO} (s : Same H H') (h : H p = none) : Same H (upd H' p o) := fun b u e => by
  rw [upd_ne (ne_of_none e h)]
  exact s b u e
theorem Same.up {H H' : Hp} {p : Addr} {o : HO} (s : Same H H') (h : H' p = none) : Same H (upd H' p o) := s.trans (Same.new h)
theorem Same.at {H : Hp} {p a : Addr} {o u : HO} (h : H p = none) (e : H a = some u) : (upd H p o) a = some u := Same.new h a u e
theorem Same.rd {H H' : Hp} {a : Addr} {u : HO} (s : Same H H') (r : Rd H a u) : Rd H' a u := r.imp (fun h => s a _ h) fun ⟨o, h⟩ => ⟨o, s a _ h⟩
theorem Same.seqT {K : PySem.W.Frag} {H H' : Hp} {a : Addr} {xs : List V} (s : Same H H') (h : SqT K H a xs) : SqT K H' a xs := h.imp (fun h => s.rd h) id
theorem Same.frz {H : Hp} {d : Addr} {o : Obj} {u : HO} {H' : Hp} (s : Same (upd H d (.frz o u)) H') (hd : H d = some u) : Same H (upd H' d u) := fun b v e => by
  by_cases q : b = d
  · subst q
    rw [upd_same, ← hd, e]
  · rw [upd_ne q]
    exact s b v (by rw [upd_ne q]; exact e)
/-! ### lists of ints -/
theorem sub_len : ∀ {m l : List Int}, m.Nodup → (∀ x ∈ m, x ∈ l) → m.length ≤ l.length
  | [], l, _, _ => Nat.zero_le _
  | x :: m, l, nd, h => by
    have hx := h x List.mem_cons_self
    have p := List.perm_cons_erase hx
    have nd' := List.nodup_cons.mp nd
    have := sub_len (m := m) (l := l.erase x) nd'.2 fun y hy => (List.mem_erase_of_ne (fun e => nd'.1 (by rw [← e]; exact hy))).mpr (h y (List.mem_cons_of_mem _ hy))
    have e := p.length_eq
    simp only [List.length_cons] at e ⊢
    omega
theorem sub_perm : ∀ {m l : List Int}, m.Nodup → (∀ x ∈ m, x ∈ l) → l.length ≤ m.length → m.Perm l
  | [], l, _, _, hl => by
    have : l = [] := List.length_eq_zero_iff.mp (Nat.le_zero.mp hl)
    subst this
    exact .refl _
  | x :: m, l, nd, h, hl => by
    have hx := h x List.mem_cons_self
    have p := List.perm_cons_erase hx
    have nd' := List.nodup_cons.mp nd
    have e := p.length_eq
    simp only [List.length_cons] at e hl
    have := sub_perm (m := m) (l := l.erase x) nd'.2 (fun y hy => (List.mem_erase_of_ne (fun e => nd'.1 (by rw [← e]; exact hy))).mpr (h y (List.mem_cons_of_mem _ hy))) (by omega)
    exact (List.Perm.cons x this).trans p.symm
theorem sub_nodup {m l : List Int} (nd : m.Nodup) (h : ∀ x ∈ m, x ∈ l) (hl : l.length ≤ m.length) : l.Nodup ∧ ∀ x ∈ l, x ∈ m := by
  have p := sub_perm nd h hl
  exact ⟨p.nodup_iff.mp nd, fun x hx => p.mem_iff.mpr hx⟩
theorem inV_ints {n : Int} : ∀ {ns : List Int}, inV (.int n) (ns.map V.int) = decide (n ∈ ns)
  | [] => rfl
  | m :: ns => by
    have ih := inV_ints (n := n) (ns := ns)
    unfold inV at ih ⊢
    rw [List.map_cons, List.any_cons, ih]
    show (decide (m = n) || _) = _
    rw [Bool.eq_iff_iff]
    simp only [Bool.or_eq_true, decide_eq_true_eq, List.mem_cons]
    exact ⟨fun h => h.imp Eq.symm id, fun h => h.imp Eq.symm id⟩
theorem flat_ints (ns : List Int) : (ns.map V.int).all flatV = true := by
  rw [List.all_map]
  exact List.all_eq_true.mpr fun _ _ => rfl
abbrev dInts (ns : List Int) : List PyData := ns.map PyData.int
theorem dp_ints {K : PySem.W.Frag} {H : Hp} : ∀ ns : List Int, DpAll K H (ns.map V.int) (dInts ns)
  | [] => .nil
  | n :: ns => .cons (.int n) (dp_ints ns)
theorem eqvAll_ints : ∀ ns ms : List Int, PyData.eqvAll (dInts ns) (dInts ms) = decide (ns = ms)
  | [], [] => by simp [dInts, PyData.eqvAll]
  | [], _ :: _ => by simp [dInts, PyData.eqvAll]
  | _ :: _, [] => by simp [dInts, PyData.eqvAll]
  | n :: ns, m :: ms => by
    have ih := eqvAll_ints ns ms
    show (PyData.eqv (.int n) (.int m) && PyData.eqvAll (dInts ns) (dInts ms)) = _
    rw [ih, Bool.eq_iff_iff]
    simp [PyData.eqv]
theorem eqv_list (ns ms : List Int) : PyData.eqv (.list (dInts ns)) (.list (dInts ms)) = decide (ns = ms) := by
  show PyData.eqvAll _ _ = _
  exact eqvAll_ints ns ms
theorem canLay_ints : ∀ ns : List Int, PyData.canLayAll0 (dInts ns) = true
  | [] => rfl
  | n :: ns => by
    show (PyData.canLay0 (.int n) && PyData.canLayAll0 (dInts ns)) = true
    rw [canLay_ints ns]
    rfl
theorem depth_ints : ∀ ns : List Int, PyData.depthAll (dInts ns) ≤ 1
  | [] => by unfold dInts; rw [List.map_nil, PyData.depthAll]; omega
  | n :: ns => by
    have := depth_ints ns
    unfold dInts at this ⊢
    rw [List.map_cons, PyData.depthAll, PyData.depth]
    omega
theorem shaped_list (ns : List Int) : SeqAt.shaped (.list (dInts ns)) = true := by
  have h := depth_ints ns
  have c := canLay_ints ns
  unfold SeqAt.shaped
  rw [PyData.canLay0, PyData.depth, c]
  simp
  omega
theorem shaped_tup (ns : List Int) : SeqAt.shaped (.tuple (dInts ns)) = true := by
  have h := depth_ints ns
  have c := canLay_ints ns
  unfold SeqAt.shaped
  rw [PyData.canLay0, PyData.depth, c]
  simp
  omega
/-! ### dicts with int keys -/
abbrev ikv (ps : List (Int × V)) : List (Key × V) := ps.map fun p => (Sum.inl p.1, p.2)
theorem valV_ikv {n : Int} : ∀ {ps : List (Int × V)}, valV (ikv ps) (Sum.inl n) = ps.lookup n
  | [] => rfl
  | (m, v) :: ps => by
    by_cases e : m = n
    · subst e
      show valV ((Sum.inl m, v) :: ikv ps) _ = _
      rw [valV_pos rfl]
      simp [List.lookup]
    · have q : ¬ ((Sum.inl m : Key) = Sum.inl n) := fun h => e (Sum.inl.inj h)
      show valV ((Sum.inl m, v) :: ikv ps) _ = _
      rw [valV_neg q, valV_ikv]
      have : (n == m) = false := by simpa using fun h : n = m => e h.symm
      simp [List.lookup, this]
theorem putK_ikv {n : Int} {v : V} {ps : List (Int × V)} (h : ps.lookup n = none) : putK (ikv ps) (Sum.inl n) v = ikv (ps ++ [(n, v)]) := by
  rw [putK_new v (by rw [valV_ikv]; exact h)]
  show _ = List.map _ _
  rw [List.map_append]
  rfl
theorem dropK_ikv {n : Int} {ps : List (Int × V)} : dropK (ikv ps) (Sum.inl n) = ikv (ps.filter fun p => decide (p.1 ≠ n)) := by
  unfold dropK ikv
  rw [List.filter_map]
  congr 1
  refine List.filter_congr fun p _ => ?_
  show decide _ = decide _
  rw [Bool.eq_iff_iff]
  simp
/-- a dict whose keys are ns, its values True -/
abbrev IK (ns : List Int) : List (Key × V) := ikv (ns.map fun n => (n, V.bl true))
theorem lookup_IK {n : Int} : ∀ {ns : List Int}, (ns.map fun n => (n, V.bl true)).lookup n = if n ∈ ns then some (V.bl true) else none
  | [] => rfl
  | m :: ns => by
    have ih := lookup_IK (n := n) (ns := ns)
    rw [List.map_cons]
    by_cases e : n = m
    · subst e
      simp [List.lookup]
    · have : (n == m) = false := by simpa using e
      simp only [List.lookup, this, ih, List.mem_cons, e, false_or]
theorem valV_IK {n : Int} {ns : List Int} : valV (IK ns) (Sum.inl n) = if n ∈ ns then some (V.bl true) else none := by rw [valV_ikv, lookup_IK]
theorem putK_IK {n : Int} {ns : List Int} (h : n ∉ ns) : putK (IK ns) (Sum.inl n) (V.bl true) = IK (ns ++ [n]) := by
  rw [putK_ikv (by rw [lookup_IK, if_neg h])]
  show _ = ikv (List.map _ _)
  rw [List.map_append]
  rfl
theorem putK_IK_old {n : Int} {ns : List Int} (h : n ∈ ns) : putK (IK ns) (Sum.inl n) (V.bl true) = IK ns := by
  unfold putK
  rw [valV_any, valV_IK, if_pos h]
  rw [Option.isSome_some, if_pos rfl]
  refine (List.map_congr_left (g := id) fun kv hkv => ?_).trans (List.map_id _)
  obtain ⟨p, hp, rfl⟩ := List.mem_map.mp hkv
  obtain ⟨q, hq, rfl⟩ := List.mem_map.mp hp
  show (if _ then _ else _) = _
  split <;> rfl
theorem dropK_IK {n : Int} {ns : List Int} : dropK (IK ns) (Sum.inl n) = IK (ns.filter fun m => decide (m ≠ n)) := by
  rw [dropK_ikv, List.filter_map]
  rfl
theorem IK_len (ns : List Int) : (IK ns).length = ns.length := by unfold IK ikv; rw [List.length_map, List.length_map]
/-! ### walks over ints -/
section
variable {K : PySem.W.Frag} {a d : Addr} {o : Obj} {ns : List Int}
theorem walkI_list : Walk (Itl K a) ns.length (fun H => SqL K H a (ns.map V.int)) (YAt (ns.map V.int)) := by
  have w := walk_list (K := K) (a := a) (xs := ns.map V.int)
  rwa [List.length_map] at w
theorem walkI_tup : Walk (Itt K a) ns.length (fun H => SqT K H a (ns.map V.int)) (YAt (ns.map V.int)) := by
  have w := walk_tup (K := K) (a := a) (xs := ns.map V.int)
  rwa [List.length_map] at w
theorem IK_keys (ms : List Int) : (ms.map fun n => (n, V.bl true)).map (·.1) = ms := by
  rw [List.map_map]
  exact List.map_id ms
theorem walkI_keys {ps : List (Int × V)} : Walk (Itk d o (ikv ps)) (ps.map (·.1)).length (fun H => H d = some (.frz o (.dK (ikv ps)))) (YAt ((ps.map (·.1)).map V.int)) := by
  have w := walk_keys (d := d) (o := o) (kvs := ikv ps)
  rw [List.length_map] at w ⊢
  refine w.mono (fun _ h => h) fun i H x H' hi _ ⟨e, k, v, hk, ex⟩ => ⟨e, ?_⟩
  rw [List.getElem?_map] at hk
  cases q : ps[i]? with
  | none => rw [q] at hk; cases hk
  | some p =>
    rw [q] at hk
    cases hk
    subst ex
    rw [List.map_map, List.getElem?_map, q]
    rfl
theorem walkI_IK : Walk (Itk d o (IK ns)) ns.length (fun H => H d = some (.frz o (.dK (IK ns)))) (YAt (ns.map V.int)) := by
  have w := walkI_keys (d := d) (o := o) (ps := ns.map fun n => (n, V.bl true))
  rwa [IK_keys] at w
end
/-- [f n for n in .. if keep n], the steps laying new objects alone -/
theorem lcF {J : It} {G : Hp → Prop} {ns : List Int} (w : Walk J ns.length G (YAt (ns.map V.int))) {g : TG} {tt : TT} {te : TE} {vs : List Nat} {σ : St} {H1 : Hp} {D : Addr} {Qd : Hp → Prop} (keep : Int → Bool) (f : Int → V) (nD : H1 D = none) (hz : ns.length < sizeLine)
    (hG : ∀ H, Same H1 H → G H)
    (each : ∀ (n : Int) (H : Hp) (acc : List V) (N : Hp → Prop), n ∈ ns → Same H1 H → H D = some (.lst acc) → acc.length < sizeLine → (keep n = true → ∀ H', Same H H' → N (upd H' D (.lst (acc ++ [f n])))) → (keep n = false → ∀ H', Same H H' → N H') →
      g (.int n) (wipe σ vs) H fun σ2 H2 => wipe σ2 vs = wipe σ vs ∧ tt σ2 H2 fun b H3 =>
      if b = true then te σ2 H3 fun y H4 => ∃ acc, H4 D = some (.lst acc) ∧ acc.length < sizeLine ∧ N (upd H4 D (.lst (acc ++ [y]))) else N H3)
    (hd : ∀ H, Same H1 H → H D = some (.lst ((ns.filter keep).map f)) → Qd H) :
    ∃ W : Nat → Nat → Hp → Prop, (∃ m, W 0 m (upd H1 D (.lst []))) ∧ ∀ i m H, W i m H →
      (J.stop i H ∧ Qd H) ∨ (J.go i H ∧ ∃ Nx : Hp → Prop, (∀ H', Nx H' → ∃ m', m' < m ∧ W (i + 1) m' H') ∧ ∀ x H', J.yld i H x H' → g x (wipe σ vs) H' fun σ2 H2 => wipe σ2 vs = wipe σ vs ∧ tt σ2 H2 fun b H3 =>
        if b = true then te σ2 H3 fun y H4 => ∃ acc, H4 D = some (.lst acc) ∧ acc.length < sizeLine ∧ Nx (upd H4 D (.lst (acc ++ [y]))) else Nx H3) := by
  refine lc_it w (fun i H => Same H1 H ∧ H D = some (.lst (((ns.take i).filter keep).map f))) ⟨Same.new nD, by rw [upd_same]; rfl⟩ (fun i H _ p => hG H p.1) ?_ (fun H p => hd H p.1 (by rw [p.2, List.take_length]))
  rintro i x H H' hi ⟨s, e⟩ ⟨rfl, hx⟩
  rw [List.getElem?_map] at hx
  have hn : ns[i]? = some ns[i] := List.getElem?_eq_getElem hi
  rw [hn] at hx
  cases hx
  have ht : ns.take (i + 1) = ns.take i ++ [ns[i]] := by rw [List.take_succ, hn]; rfl
  have hl : (((ns.take i).filter keep).map f).length < sizeLine := by
    rw [List.length_map]
    have h1 := List.length_filter_le keep (ns.take i)
    have h2 : (ns.take i).length ≤ ns.length := by rw [List.length_take]; omega
    omega
  refine each ns[i] H' _ _ (List.getElem_mem hi) s e hl (fun hk H2 s2 => ⟨(s.trans s2).put nD, ?_⟩) (fun hk H2 s2 => ⟨s.trans s2, ?_⟩)
  · rw [upd_same, ht, List.filter_append, List.map_append]
    simp [hk]
  · rw [s2 _ _ e, ht, List.filter_append, List.map_append]
    simp [hk]
/-- a walk over ints, by an invariant of turn and heap, whatever a step is -/
theorem goI {J : It} {G : Hp → Prop} {ns : List Int} (w : Walk J ns.length G (YAt (ns.map V.int))) {B : V → Hp → (Hp → Prop) → Prop} {H0 : Hp} {Qd : Hp → Prop} (Pv : Nat → Hp → Prop) (h0 : Pv 0 H0) (hG : ∀ i H, i ≤ ns.length → Pv i H → G H)
    (hs : ∀ i (h : i < ns.length) H, Pv i H → B (.int ns[i]) H (Pv (i + 1))) (hd : ∀ H, Pv ns.length H → Qd H) :
    ∃ W : Nat → Nat → Hp → Prop, (∃ m, W 0 m H0) ∧ ∀ i m H, W i m H →
      (J.stop i H ∧ Qd H) ∨ (J.go i H ∧ ∃ Nx : Hp → Prop, (∀ H', Nx H' → ∃ m', m' < m ∧ W (i + 1) m' H') ∧ ∀ x H', J.yld i H x H' → B x H' Nx) := by
  refine ⟨fun i m H => m = ns.length - i ∧ i ≤ ns.length ∧ Pv i H, ⟨ns.length, rfl, Nat.zero_le _, h0⟩, ?_⟩
  rintro i m H ⟨rfl, hi, p⟩
  have q := hG i H hi p
  by_cases hlt : i < ns.length
  · refine .inr ⟨w.goes i H hlt q, Pv (i + 1), fun H' p' => ⟨ns.length - (i + 1), by omega, rfl, hlt, p'⟩, fun x H' y => ?_⟩
    obtain ⟨rfl, hx⟩ := w.yields i H x H' hlt q y
    rw [List.getElem?_map, List.getElem?_eq_getElem hlt] at hx
    cases hx
    exact hs i hlt H' p
  · have e : i = ns.length := by omega
    subst e
    exact .inl ⟨w.stops H q, hd H p⟩
/-- {n: True for n in .. if keep n}, the steps laying new objects alone -/
theorem dcF {J : It} {G : Hp → Prop} {ns : List Int} (w : Walk J ns.length G (YAt (ns.map V.int))) {g : TG} {tt : TT} {tk tv : TE} {vs : List Nat} {σ : St} {H1 : Hp} {D : Addr} {Qd : Hp → Prop} (keep : Int → Bool) (nD : H1 D = none) (hz : ns.length < sizeLine)
    (hG : ∀ H, Same H1 H → G H)
    (each : ∀ (n : Int) (H : Hp) (ms : List Int) (N : Hp → Prop), n ∈ ns → Same H1 H → H D = some (.dK (IK ms)) → (IK ms).length < sizeLine → (keep n = true → ∀ H', Same H H' → N (upd H' D (.dK (putK (IK ms) (Sum.inl n) (.bl true))))) → (keep n = false → ∀ H', Same H H' → N H') →
      g (.int n) (wipe σ vs) H fun σ2 H2 => wipe σ2 vs = wipe σ vs ∧ tt σ2 H2 fun b H3 =>
      if b = true then tk σ2 H3 fun y H4 => tv σ2 H4 fun z H5 => ∃ kvs k, y = kV k ∧ H5 D = some (.dK kvs) ∧ kvs.length < sizeLine ∧ N (upd H5 D (.dK (putK kvs k z))) else N H3)
    (hd : ∀ H ms, Same H1 H → H D = some (.dK (IK ms)) → ms.Nodup → ms.length ≤ ns.length → (∀ x, x ∈ ms ↔ x ∈ ns ∧ keep x = true) → Qd H) :
    ∃ W : Nat → Nat → Hp → Prop, (∃ m, W 0 m (upd H1 D (.dK []))) ∧ ∀ i m H, W i m H →
      (J.stop i H ∧ Qd H) ∨ (J.go i H ∧ ∃ Nx : Hp → Prop, (∀ H', Nx H' → ∃ m', m' < m ∧ W (i + 1) m' H') ∧ ∀ x H', J.yld i H x H' → g x (wipe σ vs) H' fun σ2 H2 => wipe σ2 vs = wipe σ vs ∧ tt σ2 H2 fun b H3 =>
        if b = true then tk σ2 H3 fun y H4 => tv σ2 H4 fun z H5 => ∃ kvs k, y = kV k ∧ H5 D = some (.dK kvs) ∧ kvs.length < sizeLine ∧ Nx (upd H5 D (.dK (putK kvs k z))) else Nx H3) := by
  refine goI w (fun i H => Same H1 H ∧ ∃ ms, H D = some (.dK (IK ms)) ∧ ms.Nodup ∧ ms.length ≤ i ∧ ∀ x, x ∈ ms ↔ x ∈ ns.take i ∧ keep x = true) ⟨Same.new nD, [], upd_same, List.nodup_nil, Nat.le_refl _, fun x => ⟨fun z => (by cases z), fun z => (by cases z.1)⟩⟩ (fun i H _ p => hG H p.1) ?_ (fun H p => ?_)
  · rintro i hi H ⟨s, ms, e, nd, hl, hm⟩
    have ht : ∀ x, x ∈ ns.take (i + 1) ↔ x ∈ ns.take i ∨ x = ns[i] := fun x => by
      rw [List.take_succ, List.getElem?_eq_getElem hi, Option.toList_some, List.mem_append, List.mem_singleton]
    refine each ns[i] H ms _ (List.getElem_mem hi) s e (by rw [IK_len]; omega) (fun hk H2 s2 => ⟨(s.trans s2).put nD, ?_⟩) (fun hk H2 s2 => ⟨s.trans s2, ms, s2 _ _ e, nd, by omega, fun x => ?_⟩)
    · by_cases hin : ns[i] ∈ ms
      · refine ⟨ms, by rw [upd_same, putK_IK_old hin], nd, by omega, fun x => ?_⟩
        rw [hm, ht]
        constructor
        · exact fun z => ⟨.inl z.1, z.2⟩
        · rintro ⟨z | z, z2⟩
          · exact ⟨z, z2⟩
          · subst z; exact (hm _).mp hin
      · refine ⟨ms ++ [ns[i]], by rw [upd_same, putK_IK hin], ?_, by rw [List.length_append]; simp; omega, fun x => ?_⟩
        · rw [List.nodup_append]
          exact ⟨nd, by simp, fun a ha b hb => by rw [List.mem_singleton.mp hb]; intro z; subst z; exact hin ha⟩
        · rw [List.mem_append, List.mem_singleton, hm, ht]
          constructor
          · rintro (z | z)
            · exact ⟨.inl z.1, z.2⟩
            · subst z; exact ⟨.inr rfl, hk⟩
          · rintro ⟨z | z, z2⟩
            · exact .inl ⟨z, z2⟩
            · exact .inr z
    · rw [hm, ht]
      constructor
      · exact fun z => ⟨.inl z.1, z.2⟩
      · rintro ⟨z | z, z2⟩
        · exact ⟨z, z2⟩
        · subst z; rw [hk] at z2; cases z2
  · obtain ⟨s, ms, e, nd, hl, hm⟩ := p
    rw [List.take_length] at hm
    exact hd H ms s e nd hl hm
/-! ### a list or a tuple, as it comes -/
section
variable {X : Cx} {K : PySem.W.Frag} {e tg : Expr} {te : TE}
/-- the ints ns stand at a, in a list or a tuple -/
def Sq (K : PySem.W.Frag) (H : Hp) (a : Addr) (ns : List Int) : Prop := SqL K H a (ns.map V.int) ∨ SqT K H a (ns.map V.int)
theorem Same.sq {H H' : Hp} {a : Addr} {ns : List Int} (s : Same H H') (h : Sq K H a ns) : Sq K H' a ns := h.imp (fun h => s.seq h) (fun h => s.seqT h)
@[irreducible] def iSq (K : PySem.W.Frag) (te : TE) : TI := fun σ H R => te σ H fun x H1 => ∃ a, x = .ref a ∧ (((∃ xs, SqL K H1 a xs) ∧ R (Itl K a) H1) ∨ ((∃ xs, SqT K H1 a xs) ∧ R (Itt K a) H1))
theorem pi_sq (he : PE X e te) : PI X tg e (iSq X.K te) := by
  constructor
  intro pins s σ H R I h
  unfold iSq at h
  refine thn (he.run pins s σ H _ I h) fun u s1 hh => ?_
  obtain ⟨x, H1, I1, rx, a, ex, q⟩ := hh
  subst ex
  obtain rfl : u = Value.ref a := rx
  have new : ∀ b ∈ [s1.heap.objs.size], FpOk X pins H1 b := fun b hb => by
    rw [List.mem_singleton.mp hb]
    exact I1.fpOk (Nat.le_refl _) (I1.hok.fresh (Nat.le_refl _))
  rcases q with ⟨⟨xs, hq⟩, q⟩ | ⟨⟨xs, hq⟩, q⟩
  · obtain ⟨its, _, pl, _⟩ := I1.list hq
    exact wpAny_pyIter_list pl.isList ⟨_, _, _, _, H1, rfl, I1.kept (t' := s1.toks) fun b o z => Heap.get?_push_of_some _ z, turn_list a _, ⟨_, Heap.get?_push_size _ rfl, rfl, rfl⟩, new, q⟩
  · obtain ⟨its, _, pl, _⟩ := I1.tuple hq
    exact wpAny_pyIter_tuple (show s1.heap.IsTuple a its.toArray from pl) ⟨_, _, _, _, H1, rfl, I1.kept (t' := s1.toks) fun b o z => Heap.get?_push_of_some _ z, turn_tuple a _, ⟨_, Heap.get?_push_size _ rfl, rfl, rfl⟩, new, q⟩
theorem sq_walk {σ : St} {H : Hp} {R : It → Hp → Prop} {a : Addr} {ns : List Int} {i : Nat} (hi : σ[i]? = some (some (.ref a))) (h : Sq K H a ns) (k : ∀ J, Walk J ns.length (fun H' => Sq K H' a ns ∧ Same H H') (YAt (ns.map V.int)) → R J H) : iSq K (tVar i) σ H R := by
  unfold iSq
  refine ⟨_, hi, a, rfl, ?_⟩
  rcases h with h | h
  · exact .inl ⟨⟨_, h⟩, k _ (walkI_list.mono (fun H' z => z.2.seq h) fun _ _ _ _ _ _ y => y)⟩
  · exact .inr ⟨⟨_, h⟩, k _ (walkI_tup.mono (fun H' z => z.2.seqT h) fun _ _ _ _ _ _ y => y)⟩
end
/-- d == {} and d != {}: a dict by its length against the empty one -/
theorem ikv_nil {ps : List (Int × V)} : ikv ps = [] ↔ ps = [] := by unfold ikv; exact List.map_eq_nil_iff
end L2
/-! Calls of built-in names in short: c_len e and so on; statements on local names. -/
namespace L2
open PySem PySem.Spec PyProof.Rows
/-- the built-in names that the module leaves as they are -/
structure Blt (mg : Str → Option Value) : Prop where
  len : mg "len" = none
  abs : mg "abs" = none
  int : mg "int" = none
  range : mg "range" = none
  sorted : mg "sorted" = none
  set : mg "set" = none
  list : mg "list" = none
  tuple : mg "tuple" = none
  repr : mg "repr" = none
  max : mg "max" = none
  min : mg "min" = none
  isinstance : mg "isinstance" = none
  all : mg "all" = none
section
variable {X : Cx} {e e2 : Expr} {te te2 : TE} {p pos : Pos}
theorem c_len (B : Blt X.mg) (he : PE X e te) (hg : Gl X "len" := by rfl) (h1 : starEach (e :: []) X.env = (false, eval e X.env) :: starEach [] X.env := by rfl) (h2 : (backTo pos (starEach [] X.env)).any (·.1) = false := by rfl) :
    PE X (.Call (.Name "len" p) [e] [] pos) (tCB (fun xs H Q => ∃ p ys, xs = [.ref p] ∧ (SqL X.K H p ys ∨ SqT X.K H p ys) ∧ Q (.int ys.length) H) (tCons te tNil)) := pe_callB call_len_seq hg B.len PySem.boot_len (pa_cons he pa_nil h1) (by decide) (by decide) h1 h2
theorem c_lenD (B : Blt X.mg) (he : PE X e te) (hg : Gl X "len" := by rfl) (h1 : starEach (e :: []) X.env = (false, eval e X.env) :: starEach [] X.env := by rfl) (h2 : (backTo pos (starEach [] X.env)).any (·.1) = false := by rfl) :
    PE X (.Call (.Name "len" p) [e] [] pos) (tCB (fun xs H Q => ∃ a kvs, xs = [V.ref a] ∧ H a = some (.dK kvs) ∧ Q (.int kvs.length) H) (tCons te tNil)) := pe_callB call_lenD hg B.len PySem.boot_len (pa_cons he pa_nil h1) (by decide) (by decide) h1 h2
theorem c_lenS (B : Blt X.mg) (he : PE X e te) (hg : Gl X "len" := by rfl) (h1 : starEach (e :: []) X.env = (false, eval e X.env) :: starEach [] X.env := by rfl) (h2 : (backTo pos (starEach [] X.env)).any (·.1) = false := by rfl) :
    PE X (.Call (.Name "len" p) [e] [] pos) (tCB (rLenSetO X.w) (tCons te tNil)) := pe_callB call_lenSetO hg B.len PySem.boot_len (pa_cons he pa_nil h1) (by decide) (by decide) h1 h2
theorem c_abs (B : Blt X.mg) (he : PE X e te) (hg : Gl X "abs" := by rfl) (h1 : starEach (e :: []) X.env = (false, eval e X.env) :: starEach [] X.env := by rfl) (h2 : (backTo pos (starEach [] X.env)).any (·.1) = false := by rfl) :
    PE X (.Call (.Name "abs" p) [e] [] pos) (tCB (fun xs H Q => ∃ i, xs = [.int i] ∧ Q (.int (if i < 0 then -i else i)) H) (tCons te tNil)) := pe_callB call_abs hg B.abs (by decide +kernel) (pa_cons he pa_nil h1) (by decide) (by decide) h1 h2
theorem c_int (B : Blt X.mg) (he : PE X e te) (hg : Gl X "int" := by rfl) (h1 : starEach (e :: []) X.env = (false, eval e X.env) :: starEach [] X.env := by rfl) (h2 : (backTo pos (starEach [] X.env)).any (·.1) = false := by rfl) :
    PE X (.Call (.Name "int" p) [e] [] pos) (tCB (fun xs H Q => (∃ i, xs = [.int i] ∧ Q (.int i) H) ∨ ∃ k, xs = [.bl k] ∧ Q (.int (if k then 1 else 0)) H) (tCons te tNil)) := pe_callTy call_int1 hg B.int (by decide +kernel) (pa_cons he pa_nil h1) (by decide) (by decide) h1 h2
theorem c_set (hc : X.calm = true) (B : Blt X.mg) (he : PE X e te) (hg : Gl X "set" := by rfl) (h1 : starEach (e :: []) X.env = (false, eval e X.env) :: starEach [] X.env := by rfl) (h2 : (backTo pos (starEach [] X.env)).any (·.1) = false := by rfl) :
    PE X (.Call (.Name "set" p) [e] [] pos) (tCB (rSetI X.K X.w) (tCons te tNil)) := pe_callTy (cr_setI hc) hg B.set (by decide +kernel) (pa_cons he pa_nil h1) (by decide) (by decide) h1 h2
theorem c_list (B : Blt X.mg) (he : PE X e te) (hg : Gl X "list" := by rfl) (h1 : starEach (e :: []) X.env = (false, eval e X.env) :: starEach [] X.env := by rfl) (h2 : (backTo pos (starEach [] X.env)).any (·.1) = false := by rfl) :
    PE X (.Call (.Name "list" p) [e] [] pos) (tCB (fun xs H Q => ∃ p ys, xs = [.ref p] ∧ (SqL X.K H p ys ∨ SqT X.K H p ys) ∧ ∀ l, H l = none → Q (.ref l) (upd H l (.lst ys))) (tCons te tNil)) := pe_callTy call_list_of hg B.list (by decide +kernel) (pa_cons he pa_nil h1) (by decide) (by decide) h1 h2
theorem c_listD (hc : X.calm = true) (B : Blt X.mg) (he : PE X e te) (hg : Gl X "list" := by rfl) (h1 : starEach (e :: []) X.env = (false, eval e X.env) :: starEach [] X.env := by rfl) (h2 : (backTo pos (starEach [] X.env)).any (·.1) = false := by rfl) :
    PE X (.Call (.Name "list" p) [e] [] pos) (tCB (fun xs H Q => ∃ (a : Addr) (kvs : List (Key × V)), xs = [.ref a] ∧ Rd H a (.dK kvs) ∧ ∀ p, H p = none → Q (.ref p) (upd H p (.lst (kvs.map fun kv => kV kv.1)))) (tCons te tNil)) := pe_callTy (call_listD hc) hg B.list (by decide +kernel) (pa_cons he pa_nil h1) (by decide) (by decide) h1 h2
theorem c_tuple (B : Blt X.mg) (he : PE X e te) (hg : Gl X "tuple" := by rfl) (h1 : starEach (e :: []) X.env = (false, eval e X.env) :: starEach [] X.env := by rfl) (h2 : (backTo pos (starEach [] X.env)).any (·.1) = false := by rfl) :
    PE X (.Call (.Name "tuple" p) [e] [] pos) (tCB (fun xs H Q => ∃ p ys, xs = [.ref p] ∧ ((SqL X.K H p ys ∧ ∀ l, H l = none → Q (.ref l) (upd H l (.tup ys))) ∨ (SqT X.K H p ys ∧ Q (.ref p) H))) (tCons te tNil)) := pe_callTy call_tuple_of hg B.tuple (by decide +kernel) (pa_cons he pa_nil h1) (by decide) (by decide) h1 h2
theorem c_sortedSet (hc : X.calm = true) (B : Blt X.mg) (he : PE X e te) (hg : Gl X "sorted" := by rfl) (h1 : starEach (e :: []) X.env = (false, eval e X.env) :: starEach [] X.env := by rfl) (h2 : (backTo pos (starEach [] X.env)).any (·.1) = false := by rfl) :
    PE X (.Call (.Name "sorted" p) [e] [] pos) (tCB (rSortedSet X.w) (tCons te tNil)) := pe_callB (cr_sortedSet hc) hg B.sorted (by decide +kernel) (pa_cons he pa_nil h1) (by decide) (by decide) h1 h2
theorem c_sortedI (B : Blt X.mg) (he : PE X e te) (hg : Gl X "sorted" := by rfl) (h1 : starEach (e :: []) X.env = (false, eval e X.env) :: starEach [] X.env := by rfl) (h2 : (backTo pos (starEach [] X.env)).any (·.1) = false := by rfl) :
    PE X (.Call (.Name "sorted" p) [e] [] pos) (tCB (rSortedI X.K) (tCons te tNil)) := pe_callB cr_sortedI hg B.sorted (by decide +kernel) (pa_cons he pa_nil h1) (by decide) (by decide) h1 h2
theorem c_sortedD (hc : X.calm = true) (B : Blt X.mg) (he : PE X e te) (hg : Gl X "sorted" := by rfl) (h1 : starEach (e :: []) X.env = (false, eval e X.env) :: starEach [] X.env := by rfl) (h2 : (backTo pos (starEach [] X.env)).any (·.1) = false := by rfl) :
    PE X (.Call (.Name "sorted" p) [e] [] pos) (tCB (fun xs H Q => ∃ (a : Addr) (kvs : List (Key × V)) (ks : List Int), xs = [.ref a] ∧ Rd H a (.dK kvs) ∧ kvs.map (·.1) = ks.map Sum.inl ∧ ks.length < 64 ∧
    ∀ (ys : List Int) (p : Addr), ys.Perm ks → ys.Pairwise (· ≤ ·) → H p = none → Q (.ref p) (upd H p (.lst (ys.map V.int)))) (tCons te tNil)) := pe_callB (call_sortedDI hc) hg B.sorted (by decide +kernel) (pa_cons he pa_nil h1) (by decide) (by decide) h1 h2
theorem c_repr {k : Nat} (hG : X.A.guards = some []) (hr : Room k X.A) (B : Blt X.mg) (he : PE X e te) (hg : Gl X "repr" := by rfl) (h1 : starEach (e :: []) X.env = (false, eval e X.env) :: starEach [] X.env := by rfl) (h2 : (backTo pos (starEach [] X.env)).any (·.1) = false := by rfl) :
    PE X (.Call (.Name "repr" p) [e] [] pos) (tCB (rRepr X.K) (tCons te tNil)) := pe_callB (call_repr hG hr) hg B.repr (by decide +kernel) (pa_cons he pa_nil h1) (by decide) (by decide) h1 h2
theorem c_minK (hc : X.calm = true) (B : Blt X.mg) (he : PE X e te) (hg : Gl X "min" := by rfl) (h1 : starEach (e :: []) X.env = (false, eval e X.env) :: starEach [] X.env := by rfl) (h2 : (backTo pos (starEach [] X.env)).any (·.1) = false := by rfl) :
    PE X (.Call (.Name "min" p) [e] [] pos) (tCB rMinK (tCons te tNil)) := pe_callB (cr_minK hc) hg B.min (by decide +kernel) (pa_cons he pa_nil h1) (by decide) (by decide) h1 h2
theorem c_all (hc : X.calm = true) (B : Blt X.mg) (he : PE X e te) (hg : Gl X "all" := by rfl) (h1 : starEach (e :: []) X.env = (false, eval e X.env) :: starEach [] X.env := by rfl) (h2 : (backTo pos (starEach [] X.env)).any (·.1) = false := by rfl) :
    PE X (.Call (.Name "all" p) [e] [] pos) (tCB (rAll X.K) (tCons te tNil)) := pe_callB (cr_all hc) hg B.all (by decide +kernel) (pa_cons he pa_nil h1) (by decide) (by decide) h1 h2
theorem c_min2 (hc : X.calm = true) (B : Blt X.mg) (he : PE X e te) (he2 : PE X e2 te2) (hg : Gl X "min" := by rfl) (h1 : starEach (e :: [e2]) X.env = (false, eval e X.env) :: starEach [e2] X.env := by rfl) (h2 : (backTo pos (starEach [e2] X.env)).any (·.1) = false := by rfl) (h3 : starEach (e2 :: []) X.env = (false, eval e2 X.env) :: starEach [] X.env := by rfl) :
    PE X (.Call (.Name "min" p) [e, e2] [] pos) (tCB (fun xs H Q => ∃ i j, xs = [.int i, .int j] ∧ Q (.int (if j < i then j else i)) H) (tCons te (tCons te2 tNil))) := pe_callB (call_min2 hc) hg B.min (by decide +kernel) (pa_cons he (pa_cons he2 pa_nil h3) h1) (by decide) (by decide) h1 h2
theorem c_max2 (hc : X.calm = true) (B : Blt X.mg) (he : PE X e te) (he2 : PE X e2 te2) (hg : Gl X "max" := by rfl) (h1 : starEach (e :: [e2]) X.env = (false, eval e X.env) :: starEach [e2] X.env := by rfl) (h2 : (backTo pos (starEach [e2] X.env)).any (·.1) = false := by rfl) (h3 : starEach (e2 :: []) X.env = (false, eval e2 X.env) :: starEach [] X.env := by rfl) :
    PE X (.Call (.Name "max" p) [e, e2] [] pos) (tCB (fun xs H Q => ∃ i j, xs = [.int i, .int j] ∧ Q (.int (if j > i then j else i)) H) (tCons te (tCons te2 tNil))) := pe_callB (call_max2 hc) hg B.max (by decide +kernel) (pa_cons he (pa_cons he2 pa_nil h3) h1) (by decide) (by decide) h1 h2
/-- range(e) for a for -/
theorem i_range {tg : Expr} (B : Blt X.mg) (he : PE X e te) (hg : Gl X "range" := by rfl) (hs : starEach [e] X.env = [(false, eval e X.env)] := by rfl) (h1 : starEach (e :: []) X.env = (false, eval e X.env) :: starEach [] X.env := by rfl) : PI X tg (.Call (.Name "range" p) [e] [] pos) (iRng1 (tCons te tNil)) := pi_range1 hg B.range (pa_cons he pa_nil h1) hs
theorem i_range2 {tg : Expr} (B : Blt X.mg) (he : PE X e te) (he2 : PE X e2 te2) (hg : Gl X "range" := by rfl) (hs : starEach [e, e2] X.env = [(false, eval e X.env), (false, eval e2 X.env)] := by rfl) (hs2 : starEach [e2] X.env = [(false, eval e2 X.env)] := by rfl)
    (h1 : starEach (e :: [e2]) X.env = (false, eval e X.env) :: starEach [e2] X.env := by rfl) (h3 : starEach (e2 :: []) X.env = (false, eval e2 X.env) :: starEach [] X.env := by rfl) : PI X tg (.Call (.Name "range" p) [e, e2] [] pos) (iRng2 (tCons te (tCons te2 tNil))) := pi_range2 hg B.range (pa_cons he (pa_cons he2 pa_nil h3) h1) hs hs2
/-- xs.append(e) as a statement's expression -/
theorem c_append {o : Expr} {to : TE} {apos : Pos} (ho : PE X o to) (he : PE X e te) (hbase : attributeBase o "append" X.env (eval o X.env) = eval o X.env := by rfl)
    (hfew : ((backTo pos (starEach (e :: []) X.env)).all (fun x => !x.1) && (backToKw pos (keywordEach [] X.env)).all (fun x => x.1.isSome)
      && decide ((e :: []).length + ([] : List Keyword).length + (if ([] : List Keyword).isEmpty then 0 else 1) < 30)) = true := by rfl)
    (hline : (apos.endLine == pos.line) = true := by rfl) (hs : starEach (e :: []) X.env = (false, eval e X.env) :: starEach [] X.env := by rfl) (hplain : (backTo pos (starEach [] X.env)).any (·.1) = false := by rfl) :
    PE X (.Call (.Attribute o "append" apos) [e] [] pos) (tBM X.K "list" rAppend to (tCons te tNil)) := pe_bm PySem.F.plainAttrs_list PySem.F.slot_list_append PySem.F.type_list_append mt_append ho (pa_cons he pa_nil hs) hbase hfew hline hs hplain
end
/-! ### inside the block of a comprehension: the written part by its name -/
section
variable {X : Cx} {K : PySem.W.Frag} {e tg : Expr} {te : TE} {p pos : Pos}
theorem op_notInK (h : X.K = K) : OpR X (compareOp .NotIn) (rIn K true) := by subst h; exact op_notIn_seq
theorem op_inK (h : X.K = K) : OpR X (compareOp .In) (rIn K false) := by subst h; exact op_in_seq
theorem op_neDK (h : X.K = K) (hu : X.A.units + 64 < cLine) : OpR X (compareOp .NotEq) (rNeD K) := by subst h; exact op_neD hu
theorem op_eqDK (h : X.K = K) (hu : X.A.units + 64 < cLine) : OpR X (compareOp .Eq) (rEqD K) := by subst h; exact op_eqD hu
theorem ix_listK (h : X.K = K) : IxR X (rIxL K) := by subst h; exact ix_list
theorem ix_tupK (h : X.K = K) : IxR X (rIxT K) := by subst h; exact ix_tup
theorem pi_listK (h : X.K = K) (he : PE X e te) : PI X tg e (iList K te) := by subst h; exact pi_list he
theorem pi_tupK (h : X.K = K) (he : PE X e te) : PI X tg e (iTup K te) := by subst h; exact pi_tup he
end
end L2
/-! d == {} and d != {}. -/
namespace L2
open PySem PySem.Spec PyProof.Rows
section
variable {X : Cx}
def rDict0 (neg : Bool) : R2 := fun x y H Q => ∃ (a b : Addr) (ks : List (Key × V)), x = .ref a ∧ y = .ref b ∧ H a = some (.dK ks) ∧ H b = some (.dK []) ∧ Q (.bl (if neg then !decide (ks = []) else decide (ks = []))) H
theorem same_len {ks : List (Key × V)} {α : Type} {va vb : List α} (ha : ks.length = va.length) (hb : ([] : List (Key × V)).length = vb.length) : (va.length == vb.length && true) = decide (ks = []) := by
  rw [← ha, ← hb, Bool.and_true, Bool.eq_iff_iff]
  simp
theorem hits0 {A : Around} {s : Shared} {ks : List (Key × V)} {va vb : List (Key × Value)} (ha : ks.length = va.length) (hb : ([] : List (Key × V)).length = vb.length) (h : va.length = vb.length) : PySem.W.KeqHits A s vb va true := by
  have : va = [] := List.length_eq_zero_iff.mp (h.trans hb.symm)
  subst this
  exact .nil
theorem op_eqD0 (hu : X.A.units < cLine) : OpR X (compareOp .Eq) (rDict0 false) := by
  intro pins s σ H x y v u Q I rx ry h
  obtain ⟨a, b, ks, rfl, rfl, ea, eb, q⟩ := h
  obtain rfl : v = Value.ref a := rx
  obtain rfl : u = Value.ref b := ry
  obtain ⟨_, ya, va, ra, da⟩ := (show ObjOk X.prog X.w H s.heap a (.dK ks) from I.hok a _ ea)
  obtain ⟨_, yb, vb, rb, db⟩ := (show ObjOk X.prog X.w H s.heap b (.dK []) from I.hok b _ eb)
  exact PySem.W.keq_eq (knd := mixKind X.prog X.w) (r := true) ya yb da db hu (fun e => hits0 ra.length rb.length e) (fin_bl I q (same_len ra.length rb.length).symm)
theorem op_neD0 (hu : X.A.units < cLine) : OpR X (compareOp .NotEq) (rDict0 true) := by
  intro pins s σ H x y v u Q I rx ry h
  obtain ⟨a, b, ks, rfl, rfl, ea, eb, q⟩ := h
  obtain rfl : v = Value.ref a := rx
  obtain rfl : u = Value.ref b := ry
  obtain ⟨_, ya, va, ra, da⟩ := (show ObjOk X.prog X.w H s.heap a (.dK ks) from I.hok a _ ea)
  obtain ⟨_, yb, vb, rb, db⟩ := (show ObjOk X.prog X.w H s.heap b (.dK []) from I.hok b _ eb)
  exact PySem.W.keq_ne (knd := mixKind X.prog X.w) (r := true) ya yb da db hu (fun e => hits0 ra.length rb.length e) (fin_bl I q (by rw [same_len ra.length rb.length]; rfl))
end
end L2
/-! what repr asks of lists and tuples of ints; a field read inside a comprehension. -/
namespace L2
open PySem PySem.Spec PyProof.Rows
theorem showable_ints : ∀ ns : List Int, (∀ n ∈ ns, n.natAbs < 10 ^ 12) → PyData.showableAll (dInts ns) = true
  | [], _ => by unfold dInts; rw [List.map_nil, PyData.showableAll]
  | n :: ns, h => by
    have ih := showable_ints ns fun m hm => h m (List.mem_cons_of_mem _ hm)
    have hn := h n List.mem_cons_self
    unfold dInts at ih ⊢
    rw [List.map_cons, PyData.showableAll, ih, Bool.and_true, PyData.showable, decide_eq_true_eq]
    by_cases e : n.natAbs = 0
    · rw [e]; decide
    · exact Nat.lt_trans ((Nat.log2_lt e).mpr (Nat.lt_trans hn (by decide : 10 ^ 12 < 2 ^ 40))) (by decide)
theorem noDict_ints : ∀ ns : List Int, PyData.hasDictAll (dInts ns) = false
  | [] => by unfold dInts; rw [List.map_nil, PyData.hasDictAll]
  | n :: ns => by
    have ih := noDict_ints ns
    unfold dInts at ih ⊢
    rw [List.map_cons, PyData.hasDictAll, ih, PyData.hasDict]
    rfl
theorem leaves_ints : ∀ ns : List Int, (∀ n ∈ ns, n.natAbs < 10 ^ 12) → PyData.leavesShortAll 13 (dInts ns) = true
  | [], _ => by unfold dInts; rw [List.map_nil, PyData.leavesShortAll]
  | n :: ns, h => by
    have ih := leaves_ints ns fun m hm => h m (List.mem_cons_of_mem _ hm)
    have hn := h n List.mem_cons_self
    unfold dInts at ih ⊢
    rw [List.map_cons, PyData.leavesShortAll, ih, Bool.and_true, PyData.leavesShort, decide_eq_true_eq]
    exact PyData.shown_int_le hn
theorem bulk_ints : ∀ ns : List Int, PyData.bulkAll (dInts ns) = ns.length
  | [] => by unfold dInts; rw [List.map_nil, PyData.bulkAll]; rfl
  | n :: ns => by
    have ih := bulk_ints ns
    unfold dInts at ih ⊢
    rw [List.map_cons, PyData.bulkAll, ih, PyData.bulk, List.length_cons]
    omega
theorem repr_tupI {ns : List Int} (h : ∀ n ∈ ns, n.natAbs < 10 ^ 12) (hl : ns.length ≤ 4000) : (PyData.tuple (dInts ns)).showable = true ∧ (PyData.tuple (dInts ns)).hasDict = false ∧ (PyData.tuple (dInts ns)).depth ≤ 100 ∧ (PyData.tuple (dInts ns)).shown.length ≤ sizeLine := by
  refine ⟨by rw [PyData.showable]; exact showable_ints ns h, by rw [PyData.hasDict]; exact noDict_ints ns, by rw [PyData.depth]; have := depth_ints ns; omega, ?_⟩
  have h1 := PyData.shown_le_bulk 13 (by decide) (.tuple (dInts ns)) (by rw [PyData.leavesShort]; exact leaves_ints ns h)
  rw [PyData.bulk, bulk_ints] at h1
  exact Nat.le_trans h1 (Nat.le_trans (m := 60013) (by omega) (by decide))
theorem repr_lstI {ns : List Int} (h : ∀ n ∈ ns, n.natAbs < 10 ^ 12) (hl : ns.length ≤ 4000) : (PyData.list (dInts ns)).showable = true ∧ (PyData.list (dInts ns)).hasDict = false ∧ (PyData.list (dInts ns)).depth ≤ 100 ∧ (PyData.list (dInts ns)).shown.length ≤ sizeLine := by
  refine ⟨by rw [PyData.showable]; exact showable_ints ns h, by rw [PyData.hasDict]; exact noDict_ints ns, by rw [PyData.depth]; have := depth_ints ns; omega, ?_⟩
  have h1 := PyData.shown_le_bulk 13 (by decide) (.list (dInts ns)) (by rw [PyData.leavesShort]; exact leaves_ints ns h)
  rw [PyData.bulk, bulk_ints] at h1
  exact Nat.le_trans h1 (Nat.le_trans (m := 60013) (by omega) (by decide))
theorem pe_fldK {X : Cx} {K : PySem.W.Frag} {e : Expr} {f : Str} {pos : Pos} {ta : TE} (h : X.K = K) (he : PE X e ta) (hb : attributeBase e f X.env (eval e X.env) = eval e X.env) : PE X (.Attribute e f pos) (tFld K ta f) := by subst h; exact pe_fld he hb
end L2
/-! sorted of a list of data: nested tuples of whole numbers, of any lengths. -/
namespace L2
open PySem PySem.Spec PyProof.Rows
section
variable {X : Cx}
/-- sorted(xs): each item is data, all alike -/
def rSortedDat (K : PySem.W.Frag) : List V → Hp → VK → Prop := fun vs H Q => ∃ (a : Addr) (xs : List (V × PyData)), vs = [V.ref a] ∧ SqL K H a (xs.map (·.1)) ∧ (∀ p ∈ xs, Dp K H p.1 p.2) ∧ PySem.W.AllAlike (xs.map (·.2)) ∧ PySem.W.Sortable (xs.map (·.2)) ∧ (∀ p ∈ xs, p.2.depth ≤ 60) ∧
  ∀ p, H p = none → Q (.ref p) (upd H p (.lst ((xs.mergeSort (PySem.W.dataLe false (·.2))).map (·.1))))
theorem each_vals {R : V × PyData → Prop} : ∀ {us : List Value} {xs : List (V × PyData)}, Vals (xs.map (·.1)) us → PySem.W.EachIs (fun v b => RelV b.1 v) us xs
  | [], [], _ => .nil
  | u :: us, x :: xs, r => by
    rw [List.map_cons] at r
    cases r with
    | cons a b => exact .cons a (each_vals (R := R) b)
  | [], _ :: _, r => by rw [List.map_cons] at r; cases r
  | _ :: _, [], r => by rw [List.map_nil] at r; cases r
theorem vals_each : ∀ {us : List Value} {xs : List (V × PyData)}, PySem.W.EachIs (fun v b => RelV b.1 v) us xs → Vals (xs.map (·.1)) us
  | _, _, .nil => .nil
  | _, _, .cons a b => .cons a (vals_each b)
theorem cr_sortedDat (hu : X.A.units + 64 < cLine) : CallR X (.builtin "sorted") (rSortedDat X.K) := by
  intro pins s σ H vs us Q I r h
  obtain ⟨a, xs, rfl, hs, hd, hal, hk, hdp, q⟩ := h
  obtain ⟨its, rv, hl, hz⟩ := I.list hs
  rw [Vals.ref1 r]
  have hlen : xs.length ≤ sizeLine := by rw [← List.length_map (f := fun p : V × PyData => p.1)]; exact hz
  have e := each_vals (R := fun _ => True) rv
  have er : PySem.W.EachIs (fun v (b : V × PyData) => ∃ as, Reads s.heap v b.2 as) its xs := by
    have e2 := PySem.W.each_mem e
    exact e2.mono fun v b ⟨h1, h2⟩ => Dp.reads I b.2 b.1 v (hd b h2) h1
  refine PySem.W.sorted_data (R := fun v b => RelV b.1 v) (enc := fun b : V × PyData => b.2) hl.isList e er hal hk hlen (fun b hb => by have := hdp b hb; omega) fun out h1 h2 => ?_
  obtain ⟨ep, he'⟩ := PyProof.Rows.sortedAll_at s.heap its out.toArray
  have hv := vals_each h2
  have hl2 : ((xs.mergeSort (PySem.W.dataLe false (fun b : V × PyData => b.2))).map (·.1)).length ≤ sizeLine := by
    rw [List.length_map, List.length_mergeSort]
    exact hlen
  refine ⟨.ref _, upd H (s.heap.objs.size + 1) (.lst ((xs.mergeSort (PySem.W.dataLe false (fun b : V × PyData => b.2))).map (·.1))), I.laid (t' := s.toks) (fun _ _ => PyProof.Rows.sortedAll_old) (Nat.le_succ _) ⟨hl2, out, ep, hv, he'⟩, rfl, q _ (I.hok.fresh (Nat.le_succ _))⟩
end
/-! ### sorted of anything that is collected -/
section
/-- keys that are rows of marks -/
noncomputable def tokKind (f : Value → Option (List (Int ⊕ List Nat))) : PyProof.Rows.KeyKind where
  toKeyOrd := listOrd itemOrd
  keyOf := f
  dflt := ([] : List (Int ⊕ List Nat))
/-- the values vs, that stand for xs, can be sorted by enc wherever their heap stands -/
def SortsBy (P : Program) (w : World) (A : Around) (h : Heap) (vs : List Value) (xs : List (V × PyData)) (enc : V × PyData → PyData) : Prop :=
  ∀ s' : Shared, (∀ b o, h.get? b = some o → s'.heap.get? b = some o) → ∃ f, PySem.W.SortsAt P w A s' (tokKind f) vs ∧ PySem.W.EachIs (fun v b => f v = some (PySem.W.keyToks (enc b))) vs xs
theorem sorts_data {P : Program} {w : World} {A : Around} {h : Heap} {vs : List Value} {xs : List (V × PyData)} (er : PySem.W.EachIs (fun v (b : V × PyData) => ∃ as, Reads h v b.2 as) vs xs) (hal : PySem.W.AllAlike (xs.map (·.2))) (hk : PySem.W.Sortable (xs.map (·.2)))
    (hu : ∀ b ∈ xs, A.units + b.2.depth < cLine) : SortsBy P w A h vs xs (·.2) := fun s' keep => by
  have er' : PySem.W.EachIs (fun v (b : V × PyData) => ∃ as, Reads s'.heap v b.2 as) vs xs := er.mono fun _ _ ⟨as, r⟩ => ⟨as, PyProof.Rows.Reads.keeps keep r⟩
  have S := PySem.W.SortsAt.data (prog := P) (w := w) (A := A) (s := s') (PySem.W.each_map (R := fun v d => ∃ as, Reads s'.heap v d as) (fun b : V × PyData => b.2) er') hal hk (fun d hd => by obtain ⟨b, hb, rfl⟩ := List.mem_map.mp hd; exact hu b hb)
  refine ⟨(PySem.W.dataKind s'.heap (xs.map (fun b : V × PyData => b.2))).keyOf, S, ?_⟩
  exact (PySem.W.each_mem er').mono fun v b ⟨⟨as, r⟩, hb⟩ => PySem.W.dataKind_some hal (List.mem_map.mpr ⟨b, hb, rfl⟩) r
variable {X : Cx} {pins : List (Addr × Obj)} {σ : St} {H : Hp} {s : Shared} {Q : VK}
theorem sorted_by {x : Value} {PP : Heap → List Value → Prop}
    (hcol : ∀ (R : List Value → Shared → Prop) (E' : Value → Shared → Prop), (∀ (h' : Heap) (tk : Nat) (vs : List Value), PP h' vs → R vs { s with heap := h', toks := tk }) → wpAny (model X.prog X.w) X.A.in1 (collect x) R E' s)
    (hx : ∀ h' vs, PP h' vs → ∃ (H1 : Hp) (xs : List (V × PyData)) (enc : V × PyData → PyData), (∀ tk, Inv X pins σ H1 { s with heap := h', toks := tk }) ∧ Vals (xs.map (·.1)) vs ∧ SortsBy X.prog X.w X.A.in1.in1 h' vs xs enc ∧ xs.length ≤ sizeLine ∧
      ∀ p, H1 p = none → Q (.ref p) (upd H1 p (.lst ((xs.mergeSort (PySem.W.dataLe false enc)).map (·.1))))) :
    wpAny (model X.prog X.w) X.A (call (.builtin "sorted") [x]) (EP X pins σ Q) X.xe s := by
  refine Calls.call_function_entry PyProof.Rows.kind_sorted PyProof.Rows.plain_sorted PyProof.Rows.entry_sorted (PyProof.Rows.args_sorted1 _) ?_
  unfold Builtin.«sorted»
  refine wpAny_bind (m := checkCount "sorted" 1 1 _) (wpAny_pure ?_)
  refine wpAny_bind (hcol _ _ fun h' tk vs hp => ?_)
  obtain ⟨H1, xs, enc, J, rv, S, hz, q⟩ := hx h' vs hp
  have hl : vs.length = xs.length := by have := rv.length; rw [List.length_map] at this; exact this.symm
  have I1 := J tk
  refine wpAny_bind (wpAny_newList ?_ (by rw [hl]; exact hz))
  have hoL : (h'.push (seqObj "list" vs.toArray 0)).get? h'.objs.size = some (seqObj "list" vs.toArray 0) := Heap.get?_push_size _ rfl
  show wpAny _ _ _ _ _ { s with heap := h'.push (seqObj "list" vs.toArray 0), toks := tk }
  obtain ⟨f, S1, ek⟩ := S { s with heap := PySem.W.sortingHeap (h'.push (seqObj "list" vs.toArray 0)) h'.objs.size vs, toks := tk } fun b o e =>
    PySem.W.sortingHeap_old (Nat.ne_of_lt (Heap.lt_size e)) (Heap.get?_push_of_some _ e)
  refine wpAny_bind (wpAny_holding (wpAny_call_entry PyProof.Rows.slot_list_sort ⟨_, hoL, rfl⟩ PyProof.Rows.entry_list_sort
    (PySem.W.list_sort_vals (s := { s with heap := h'.push (seqObj "list" vs.toArray 0), toks := tk }) (κ := tokKind f) hoL S1 (by rw [hl]; exact hz) ⟨_, rfl, ?_⟩) (PyProof.Rows.args_list_sort _)))
  have eo := PySem.W.sortVals_each (κ := tokKind f) (R := fun v (b : V × PyData) => RelV b.1 v) (rev := false) (fun b => PySem.W.keyToks (enc b)) (each_vals (R := fun _ => True) rv) ek
  obtain ⟨e', he'⟩ := PyProof.Rows.sortedHeap_at (vs := vs) (out := (PySem.W.sortVals (tokKind f) false vs vs).toArray) hoL
  have hlen : ((xs.mergeSort (PySem.W.dataLe false enc)).map (·.1)).length ≤ sizeLine := by
    rw [List.length_map, List.length_mergeSort]
    exact hz
  refine wpAny_pure ⟨_, rfl, .ref h'.objs.size, upd H1 h'.objs.size (.lst ((xs.mergeSort (PySem.W.dataLe false enc)).map (·.1))), I1.laid (t' := tk) (fun b u e => ?_) (Nat.le_refl _)
    (show ObjOk X.prog X.w _ _ _ (.lst ((xs.mergeSort (PySem.W.dataLe false enc)).map (·.1))) from ⟨hlen, PySem.W.sortVals (tokKind f) false vs vs, e', vals_each eo, he'⟩), rfl, q _ (I1.hok.fresh (Nat.le_refl _))⟩
  have hb : b < h'.objs.size := Heap.lt_size e
  rw [PyProof.Rows.sortedHeap_old (Nat.ne_of_lt hb) (by rw [size_push']; exact Nat.lt_succ_of_lt hb)]
  exact Heap.get?_push_of_some _ e
end
/-! ### pairs by their first: int rows, no two of them the same -/
section
open PySem.W in
theorem alike_rows (ns ms : List Int) : alike (.tuple (ns.map .int)) (.tuple (ms.map .int)) = true := by
  rw [alike]
  exact alike_ints ns ms
theorem depth_row (ns : List Int) : (PyData.tuple (ns.map .int)).depth ≤ 1 := by
  rw [PyData.depth, PySem.W.depth_ints]
  decide
theorem zip_pick {α β : Type} {as : List α} {bs : List β} {R : α → β → Prop} (e : PySem.W.EachIs R as bs) {a : α} (h : a ∈ as) : ∃ b, (a, b) ∈ as.zip bs := by
  induction e with
  | nil => cases h
  | cons r t ih =>
    rcases List.mem_cons.mp h with rfl | h
    · exact ⟨_, List.mem_cons_self⟩
    · obtain ⟨b, hb⟩ := ih h
      exact ⟨b, List.mem_cons_of_mem _ hb⟩
theorem zip_same {α β γ : Type} {k : β → γ} : ∀ {as : List α} {bs : List β} {a a' : α} {b b' : β}, (bs.map k).Nodup → (a, b) ∈ as.zip bs → (a', b') ∈ as.zip bs → k b = k b' → a = a' ∧ b = b'
  | [], _, _, _, _, _, _, h, _, _ => by simp at h
  | _ :: _, [], _, _, _, _, _, h, _, _ => by simp at h
  | x :: as, y :: bs, a, a', b, b', nd, h, h', e => by
    rw [List.map_cons, List.nodup_cons] at nd
    rw [List.zip_cons_cons] at h h'
    have mem : ∀ {p : α × β}, p ∈ as.zip bs → k p.2 ∈ bs.map k := fun {p} hp => List.mem_map.mpr ⟨p.2, (List.of_mem_zip (a := p.1) (b := p.2) hp).2, rfl⟩
    rcases List.mem_cons.mp h with h1 | h1
    · rcases List.mem_cons.mp h' with h2 | h2
      · cases h1; cases h2; exact ⟨rfl, rfl⟩
      · cases h1
        exact absurd (e ▸ mem h2) nd.1
    · rcases List.mem_cons.mp h' with h2 | h2
      · cases h2
        exact absurd (e ▸ mem h1) nd.1
      · exact zip_same nd.2 h1 h2 e
theorem kat_self {P : Program} {w : World} {A : Around} {s : Shared} {b fin : Bool} {Q : Bool → Shared → Prop} (h : Q fin s) : ∀ (vs : List Value) (i : Nat), PySem.W.KatLex P w A b fin Q (vs.zip vs) i s
  | [], i => PySem.W.kat_nil h
  | v :: vs, i => PySem.W.kat_cons (SeqAt.EqAt.same v P w _ _ (PySem.W.kat_yes (kat_self h vs (i + 1))))
theorem sorts_firsts {P : Program} {w : World} {A : Around} {h : Heap} {vs : List Value} {xs : List (V × PyData)} (k : V × PyData → List Int) (er : PySem.W.EachIs (fun v (b : V × PyData) => ∃ as, Reads h v b.2 as) vs xs)
    (hk : ∀ b ∈ xs, ∃ r, b.2 = .tuple (.tuple ((k b).map .int) :: r)) (nd : (xs.map k).Nodup) (hu : A.units + 64 < cLine) : SortsBy P w A h vs xs (fun b => .tuple ((k b).map .int)) := fun s' keep => by
  have er' : PySem.W.EachIs (fun v (b : V × PyData) => ∃ as, Reads s'.heap v b.2 as) vs xs := er.mono fun _ _ ⟨as, r⟩ => ⟨as, PyProof.Rows.Reads.keeps keep r⟩
  have rd := er'.zip
  let f : Value → Option (List (Int ⊕ List Nat)) := fun v => open Classical in if q : ∃ b, (v, b) ∈ vs.zip xs then some (PySem.W.keyToks (.tuple ((k q.choose).map .int))) else none
  have hf : ∀ {v b}, (v, b) ∈ vs.zip xs → f v = some (PySem.W.keyToks (.tuple ((k b).map .int))) := fun {v b} hb => by
    have q : ∃ b, (v, b) ∈ vs.zip xs := ⟨b, hb⟩
    have e : f v = some (PySem.W.keyToks (.tuple ((k q.choose).map .int))) := dif_pos q
    have hc := q.choose_spec
    obtain ⟨as1, r1⟩ := rd _ hb
    obtain ⟨as2, r2⟩ := rd _ hc
    have m1 := (List.of_mem_zip hb).2
    have m2 := (List.of_mem_zip hc).2
    obtain ⟨t1, e1⟩ := hk _ m1
    obtain ⟨t2, e2⟩ := hk _ m2
    have r1' : Reads s'.heap v (.tuple (.tuple ((k b).map .int) :: t1)) as1 := by rw [← e1]; exact r1
    have r2' : Reads s'.heap v (.tuple (.tuple ((k q.choose).map .int) :: t2)) as2 := by rw [← e2]; exact r2
    cases r1' with
    | @tuple l o ws n _ _ h1 h2 h3 h4 =>
      cases r2' with
      | @tuple l' o' ws' n' _ _ k1 k2 k3 k4 =>
        rw [h1] at k1
        cases k1
        rw [h3] at k3
        cases k3
        cases hw : ws.toList with
        | nil => rw [hw] at h4; cases h4
        | cons u us =>
          rw [hw] at h4 k4
          cases h4 with
          | cons a1 _ =>
            cases k4 with
            | cons b1 _ =>
              have := PySem.W.alike_unique _ _ _ _ _ (alike_rows _ _) a1 b1
              rw [e, ← this]
  have inv : ∀ {v a}, f v = some a → ∃ b, (v, b) ∈ vs.zip xs ∧ a = PySem.W.keyToks (.tuple ((k b).map .int)) := fun {v a} e => by
    by_cases q : ∃ b, (v, b) ∈ vs.zip xs
    · obtain ⟨b, hb⟩ := q
      exact ⟨b, hb, by have := (hf hb).symm.trans e; exact (Option.some.inj this).symm⟩
    · have e' : f v = none := dif_neg q
      rw [e'] at e
      cases e
  refine ⟨f, ⟨fun v hv => ?_, tuples' false, ?_, fun h2 E Q hq => ?_⟩, ?_⟩
  · obtain ⟨b, hb⟩ := zip_pick er' hv
    exact ⟨_, hf hb⟩
  · intro E x y a b Q ha hb hq
    obtain ⟨bx, hbx, rfl⟩ := inv ha
    obtain ⟨by', hby, rfl⟩ := inv hb
    obtain ⟨as1, r1⟩ := rd _ hbx
    obtain ⟨as2, r2⟩ := rd _ hby
    obtain ⟨t1, e1⟩ := hk _ (List.of_mem_zip hbx).2
    obtain ⟨t2, e2⟩ := hk _ (List.of_mem_zip hby).2
    have hq' : Q (PySem.W.dataLt (.tuple ((k bx).map .int)) (.tuple ((k by').map .int))) s' := hq
    by_cases ek : k bx = k by'
    · obtain ⟨rfl, rfl⟩ := zip_same nd hbx hby ek
      have r1' : Reads s'.heap x (.tuple (.tuple ((k bx).map .int) :: t1)) as1 := by rw [← e1]; exact r1
      cases r1' with
      | @tuple l o ws n _ _ h1 h2 h3 h4 =>
        refine PySem.W.kat_lt h1 h3 h1 h3 ?_
        rw [show decide (ws.size < ws.size) = false from decide_eq_false (Nat.lt_irrefl _)]
        refine kat_self ?_ ws.toList 0
        rwa [PySem.W.dataLt_self] at hq'
    · have r1' : Reads s'.heap x (.tuple (.tuple ((k bx).map .int) :: t1)) as1 := by rw [← e1]; exact r1
      have r2' : Reads s'.heap y (.tuple (.tuple ((k by').map .int) :: t2)) as2 := by rw [← e2]; exact r2
      cases r1' with
      | @tuple l o ws n _ _ h1 h2 h3 h4 =>
        cases r2' with
        | @tuple l' o' ws' n' _ _ k1 k2 k3 k4 =>
          cases hw : ws.toList with
          | nil => rw [hw] at h4; cases h4
          | cons u us =>
            cases hw' : ws'.toList with
            | nil => rw [hw'] at k4; cases k4
            | cons u' us' =>
              rw [hw] at h4
              rw [hw'] at k4
              cases h4 with
              | cons a1 _ =>
                cases k4 with
                | cons b1 _ =>
                  refine PySem.W.kat_lt h1 h3 k1 k3 ?_
                  rw [hw, hw', List.zip_cons_cons]
                  have d1 := depth_row (k bx)
                  have d2 := depth_row (k by')
                  refine PySem.W.kat_cons (PySem.W.eqAt_alike _ _ A s' u u' _ _ a1 b1 (alike_rows _ _) (by omega) P w _ _ ?_)
                  have hne : PyData.eqv (.tuple ((k bx).map .int)) (.tuple ((k by').map .int)) = false := by
                    cases q : PyData.eqv (.tuple ((k bx).map .int)) (.tuple ((k by').map .int)) with
                    | false => rfl
                    | true =>
                      exfalso
                      have z : PyData.eqvAll (dInts (k bx)) (dInts (k by')) = true := by rw [PyData.eqv] at q; exact q
                      rw [eqvAll_ints] at z
                      exact ek (of_decide_eq_true z)
                  rw [hne]
                  refine PySem.W.kat_no ?_
                  exact PySem.W.oneLt_alike (f := false) (fun z => by cases z) a1 b1 (alike_rows _ _) (by intro z; cases z) (by omega) hq'
  · obtain ⟨fs, t1, t2, t3⟩ := PySem.W.each_katTups (PySem.W.each_map (R := fun v d => ∃ as, Reads s'.heap v d as) (fun b : V × PyData => b.2) er') fun d hd => by
      obtain ⟨b, hb, rfl⟩ := List.mem_map.mp hd
      obtain ⟨r, e⟩ := hk b hb
      exact ⟨_, _, e⟩
    refine PySem.W.kat_kind (T := .type "tuple") t1 (by omega) (fun g hg => ?_) (beq_self_eq_true _) ?_
    · obtain ⟨x, r, as, m1, m2⟩ := t3 g hg
      obtain ⟨b, hb, e⟩ := List.mem_map.mp m1
      obtain ⟨r', e'⟩ := hk b hb
      have e2 : PyData.tuple (x :: r) = .tuple (.tuple ((k b).map .int) :: r') := e.symm.trans e'
      injection e2 with e2
      injection e2 with e2 e3
      subst e2
      exact PySem.W.looks_reads m2
    · have e : (Value.type "tuple" != Value.type "tuple") = false := by first | rfl | decide | simp
      rw [e]
      exact hq
  · refine PySem.W.EachIs.of_zip er'.length fun p hp => hf hp
end
end L2
/-! Dicts whose keys are tuples of whole numbers: sorted(d), sorted(d.items()), list(d.items()), dict(pairs), d.pop(k); sorted(set of such tuples). -/
namespace L2
open PySem PySem.Spec PyProof.Rows
/-- rows of ints in order -/
def rowLe (a b : List Int) : Bool := PySem.W.dataLe false (fun x : List Int => PyData.tuple (x.map .int)) a b
def sortRows (l : List (List Int)) : List (List Int) := l.mergeSort rowLe
theorem sort_by_row {β : Type} {enc : β → PyData} {k : β → List Int} (l : List β) (h : ∀ b ∈ l, enc b = .tuple ((k b).map .int)) : (l.mergeSort (PySem.W.dataLe false enc)).map k = sortRows (l.map k) := by
  refine PySem.W.sort_maps k fun a ha b hb => ?_
  unfold rowLe PySem.W.dataLe PySem.W.sortLe
  simp only [h a ha, h b hb]
abbrev row (ns : List Int) : List Key := ns.map Sum.inl
theorem row_kV (ns : List Int) : (row ns).map kV = ns.map V.int := by
  rw [List.map_map]
  rfl
def kInt : Key → Int
  | .inl i => i
  | .inr _ => 0
theorem row_kInt (ns : List Int) : (row ns).map kInt = ns := by
  rw [List.map_map]
  exact List.map_id ns
section
variable {X : Cx}
/-- sorted(d), d a dict whose keys are rows -/
def rSortedDT : List V → Hp → VK → Prop := fun vs H Q => ∃ (d : Addr) (kvs : List (List Key × V)) (ns : List (List Int)), vs = [V.ref d] ∧ Rd H d (.dT kvs) ∧ kvs.map (·.1) = ns.map row ∧ (∀ n ∈ ns, n ≠ []) ∧
  ∀ (p : Addr) (zs : List (Addr × List Int)), H p = none → zs.map (·.2) = sortRows ns → (∀ z ∈ zs, H z.1 = some (.tup (z.2.map V.int))) → Q (.ref p) (upd H p (.lst (zs.map fun z => V.ref z.1)))
theorem row_of {ks : List Key} {ns : List (List Int)} (h : ks ∈ ns.map row) : ks.map kV = (ks.map kInt).map V.int ∧ (∃ n ∈ ns, ks.map kInt = n) := by
  obtain ⟨n, hn, rfl⟩ := List.mem_map.mp h
  exact ⟨by rw [row_kInt, row_kV], n, hn, row_kInt n⟩
theorem KT.all {H : Hp} : ∀ {kvs : List (List Key × V)} {xs : List (List Key × Addr × Value)}, KT H kvs xs → kvs.map (·.1) = xs.map (·.1) ∧ ∀ x ∈ xs, H x.2.1 = some (.tup (x.1.map kV))
  | _, _, .nil => ⟨rfl, fun x hx => by cases hx⟩
  | _, _, .cons h t => by
    obtain ⟨e, hh⟩ := KT.all t
    refine ⟨by rw [List.map_cons, List.map_cons, e, h.1], fun x hx => ?_⟩
    rcases List.mem_cons.mp hx with rfl | hx
    · rw [← h.1]; exact h.2.1
    · exact hh x hx
theorem cr_sortedDT (hc : X.calm = true) (hu : X.A.units + 70 < cLine) : CallR X (.builtin "sorted") rSortedDT := by
  intro pins s σ H vs us Q I r h
  obtain ⟨d, kvs, ns, rfl, hd, hns, hne, q⟩ := h
  rw [Vals.ref1 r]
  obtain ⟨z, hs, ks, pr, o, es, ep, ho, hx, hdt, he, hn⟩ := (show ObjOk X.prog X.w H s.heap d (.dT kvs) from hd.ok I.hok)
  have l1 : es.size = ks.length := size_of_entries he
  have l2 : kvs.length = ks.length := Paired.length pr
  obtain ⟨ek, hk⟩ := KT.all pr
  have hrow : ∀ x ∈ ks, x.1 ∈ ns.map row := fun x hx => by rw [← hns, ek]; exact List.mem_map.mpr ⟨x, hx, rfl⟩
  refine sorted_by (PP := fun h' vs => (∀ b o, s.heap.get? b = some o → h'.get? b = some o) ∧ vs = ks.map fun x => Value.ref x.2.1) (fun R E' k => ?_) (fun h' vs hp => ?_)
  · refine PySem.W.kdu_collect (A := X.A.in1) (kdl_raw hs hx hdt) (I.ok.hd hc) ho (by omega) fun h' tk acc kp it => k h' tk _ ⟨kp, ?_⟩
    have hl : acc.toList.length = ks.length := by rw [Array.length_toList, it.1]; exact l1
    apply List.ext_getElem?
    intro j
    rw [List.getElem?_map]
    cases hj : acc.toList[j]? with
    | none =>
      have h1 := List.getElem?_eq_none_iff.mp hj
      rw [List.getElem?_eq_none (by omega)]
      rfl
    | some v =>
      obtain ⟨en, hen, hv⟩ := it.2 j v (by rw [← Array.getElem?_toList]; exact hj)
      have qe := entry_at he j
      rw [hen] at qe
      cases hb : ks[j]? with
      | none =>
        rw [hb] at qe
        exact nomatch (show some en = none from qe)
      | some b =>
        rw [hb] at qe
        have e2 : en = entryOfKey (tupleKind (mixKind X.prog X.w)) b := Option.some.inj qe
        rw [hv, e2]
        rfl
  · obtain ⟨kp, rfl⟩ := hp
    let xs : List (V × PyData) := ks.map fun x => (V.ref x.2.1, PyData.tuple ((x.1.map kInt).map .int))
    have hxs : ∀ b ∈ xs, ∃ x ∈ ks, b = (V.ref x.2.1, PyData.tuple ((x.1.map kInt).map .int)) := fun b hb => by
      obtain ⟨x, hx, e⟩ := List.mem_map.mp hb
      exact ⟨x, hx, e.symm⟩
    have rv : Vals (xs.map (·.1)) (ks.map fun x => Value.ref x.2.1) := by
      have e1 : xs.map (·.1) = (ks.map fun x => x.2.1).map V.ref := by
        show (ks.map _).map _ = _
        rw [List.map_map, List.map_map]
        rfl
      have e2 : (ks.map fun x => Value.ref x.2.1) = (ks.map fun x => x.2.1).map Value.ref := by rw [List.map_map]; rfl
      rw [e1, e2]
      exact vals_refs _
    have hD : ∀ b ∈ xs, Dp X.K H b.1 b.2 := fun b hb => by
      obtain ⟨x, hx, rfl⟩ := hxs b hb
      refine .tup (SqT.of (hk x hx)) ?_
      rw [(row_of (hrow x hx)).1]
      exact dp_ints _
    have J : ∀ tk, Inv X pins σ H { s with heap := h', toks := tk } := fun tk => I.kept kp
    refine ⟨H, xs, (·.2), J, rv, sorts_data ?_ ?_ ?_ ?_, by show (ks.map _).length ≤ _; rw [List.length_map]; omega, fun p np => ?_⟩
    · exact (PySem.W.each_mem (each_vals (R := fun _ => True) rv)).mono fun v b ⟨h1, h2⟩ => Dp.reads (J 0) b.2 b.1 v (hD b h2) h1
    · intro a ha b hb
      obtain ⟨x, hx, rfl⟩ := List.mem_map.mp ha
      obtain ⟨y, hy, rfl⟩ := List.mem_map.mp hb
      obtain ⟨x', _, rfl⟩ := hxs x hx
      obtain ⟨y', _, rfl⟩ := hxs y hy
      exact alike_rows _ _
    · refine .inl fun a ha => ?_
      obtain ⟨x, hx, rfl⟩ := List.mem_map.mp ha
      obtain ⟨x', hx', rfl⟩ := hxs x hx
      obtain ⟨_, n, hn, e⟩ := row_of (hrow x' hx')
      show ∃ y r, PyData.tuple ((x'.1.map kInt).map .int) = .tuple (y :: r)
      rw [e]
      cases n with
      | nil => exact absurd rfl (hne _ hn)
      | cons y r => exact ⟨_, _, rfl⟩
    · intro b hb
      obtain ⟨x', hx', rfl⟩ := hxs b hb
      have := depth_row (x'.1.map kInt)
      show X.A.units + 1 + 1 + (PyData.tuple ((x'.1.map kInt).map .int)).depth < _
      omega
    · -- the answer
      have hm : ∀ b ∈ xs.mergeSort (PySem.W.dataLe false (·.2)), ∃ z : Addr × List Int, b = (V.ref z.1, PyData.tuple (z.2.map .int)) ∧ H z.1 = some (.tup (z.2.map V.int)) := fun b hb => by
        obtain ⟨x, hx, rfl⟩ := hxs b (List.mem_mergeSort.mp hb)
        exact ⟨(x.2.1, x.1.map kInt), rfl, by rw [← (row_of (hrow x hx)).1]; exact hk x hx⟩
      have lift : ∀ l : List (V × PyData), (∀ b ∈ l, ∃ z : Addr × List Int, b = (V.ref z.1, PyData.tuple (z.2.map .int)) ∧ H z.1 = some (.tup (z.2.map V.int))) → ∃ zs : List (Addr × List Int), l = zs.map (fun z => (V.ref z.1, PyData.tuple (z.2.map .int))) ∧ ∀ z ∈ zs, H z.1 = some (.tup (z.2.map V.int)) := fun l => by
        induction l with
        | nil => exact fun _ => ⟨[], rfl, fun z hz => by cases hz⟩
        | cons b l ih =>
          intro hb
          obtain ⟨z, e, hz⟩ := hb b List.mem_cons_self
          obtain ⟨zs, e2, hzs⟩ := ih fun c hc => hb c (List.mem_cons_of_mem _ hc)
          refine ⟨z :: zs, by rw [e, e2]; rfl, fun y hy => ?_⟩
          rcases List.mem_cons.mp hy with rfl | hy
          · exact hz
          · exact hzs y hy
      obtain ⟨zs, ez, hz⟩ := lift _ hm
      have q' := q p zs np ?_ hz
      · have e3 : (xs.mergeSort (PySem.W.dataLe false (·.2))).map (·.1) = zs.map fun z => V.ref z.1 := by
          rw [ez, List.map_map]
          rfl
        rw [e3]
        exact q'
      · -- their rows
        let un : PyData → List Int := fun d => match d with
          | .tuple l => l.map fun e => match e with | .int i => i | _ => 0
          | _ => []
        have hun : ∀ n : List Int, un (.tuple (n.map .int)) = n := fun n => by
          show (n.map PyData.int).map _ = n
          rw [List.map_map]
          exact List.map_id n
        have e4 := sort_by_row (enc := fun b : V × PyData => b.2) (k := fun b => un b.2) xs fun b hb => by
          obtain ⟨x, hx, rfl⟩ := hxs b hb
          show PyData.tuple _ = .tuple ((un (.tuple _)).map .int)
          rw [hun]
        rw [ez, List.map_map] at e4
        have e5 : xs.map (fun b => un b.2) = ns := by
          show (ks.map _).map _ = ns
          rw [List.map_map]
          have : (ks.map fun x => x.1.map kInt) = ns := by
            have e6 : (ks.map (·.1)).map (List.map kInt) = (ns.map row).map (List.map kInt) := by rw [← hns, ek]
            rw [List.map_map, List.map_map] at e6
            rw [show (ks.map fun x => x.1.map kInt) = ks.map (List.map kInt ∘ fun x => x.1) from rfl, e6]
            refine (List.map_congr_left (g := id) fun n _ => ?_).trans (List.map_id ns)
            exact row_kInt n
          rw [← this]
          exact List.map_congr_left fun x _ => hun _
        rw [e5] at e4
        rw [← e4]
        exact List.map_congr_left fun z _ => (hun z.2).symm
end
end L2
/-! dict(pairs) whose keys are tuples. -/
namespace L2
open PySem PySem.Spec PyProof.Rows PySem.W PySem.Calls
def stoAll {K : Type} [DecidableEq K] (xs ps : List (K × Addr × Value)) : List (K × Addr × Value) := ps.foldl (fun acc p => storedH acc p.1 p.2.1 p.2.2) xs
theorem stoH_le {K : Type} [DecidableEq K] (xs : List (K × Addr × Value)) (k : K) (a : Addr) (v : Value) : (storedH xs k a v).length ≤ xs.length + 1 := by
  unfold storedH
  split
  · rw [List.length_map]; omega
  · rw [List.length_append]; exact Nat.le_refl _
def mergeT (kvs more : List (List Key × V)) : List (List Key × V) := more.foldl (fun acc kv => putK acc kv.1 kv.2) kvs
theorem putK_le {κ : Type} [DecidableEq κ] (kvs : List (κ × V)) (k : κ) (v : V) : (putK kvs k v).length ≤ kvs.length + 1 := by
  unfold putK
  split
  · rw [List.length_map]; omega
  · rw [List.length_append]; exact Nat.le_refl _
theorem length_mergeT : ∀ (more kvs : List (List Key × V)), (mergeT kvs more).length ≤ kvs.length + more.length
  | [], kvs => Nat.le_refl _
  | p :: r, kvs => by
    have h1 := length_mergeT r (putK kvs p.1 p.2)
    have h2 := putK_le kvs p.1 p.2
    show (mergeT (putK kvs p.1 p.2) r).length ≤ _
    rw [List.length_cons]
    omega
theorem KT.merge {H : Hp} : ∀ {more : List (List Key × V)} {rs : List (List Key × Addr × Value)} {kvs : List (List Key × V)} {xs : List (List Key × Addr × Value)}, KT H more rs → KT H kvs xs → KT H (mergeT kvs more) (stoAll xs rs)
  | _, _, _, _, .nil, r => r
  | _, _, _, _, .cons (a := kv) (b := x) h t, r => by
    obtain ⟨e, hb, rv⟩ := h
    have r1 := KT.put r kv.1 hb rv
    have e2 := KT.merge t r1
    rw [e] at e2
    show KT H (mergeT (putK _ kv.1 kv.2) _) (stoAll (storedH _ x.1 x.2.1 x.2.2) _)
    rw [e]
    exact e2
section
variable {prog : Program} {w : World} {A : Around} {E : Value → Shared → Prop}
theorem upd_loopT {K : Type} [DecidableEq K] {knd : HeapKind prog w K} {R : Result → Shared → Prop} {S I l : Addr} {items : Array Value} {res : Value} (hh : A.handled = none) (hu : knd.room A.in1) (hlI : l ≠ I) (hSI : S ≠ I) (hSl : S ≠ l) 
    (isK : ∀ {h h' : Heap} {k : K} {a : Addr} {c : Addr}, knd.is h k a → a ≠ c → Heap.ExtBut c h h' → knd.is h' k a) (hc0 : True) :
    ∀ (rest : List (K × Addr × Value)) (i : Nat) (acc : List (K × Addr × Value)) (ix : Int) (t : Tok) (s : Shared), items.size = i + rest.length → acc.length + rest.length ≤ sizeLine →
      (∀ (j : Nat) (q : K × Addr × Value), rest[j]? = some q → ∃ (b : Addr), items[i + j]? = some (.ref b) ∧ b ≠ S ∧ b ≠ I ∧ IsTup s.heap b #[.ref q.2.1, q.2.2] ∧ knd.is s.heap q.1 q.2.1 ∧ q.2.1 ≠ S ∧ q.2.1 ≠ I) →
      s.heap.IsListIter I l i → s.heap.IsList l items → s.heap.DictOfH knd S acc → (∀ x ∈ acc, x.2.1 ≠ S ∧ x.2.1 ≠ I) →
      (∀ h' tk, h'.DictOfH knd S (stoAll acc rest) → (∀ b o, b ≠ S → b ≠ I → s.heap.get? b = some o → h'.get? b = some o) → R (.ok (.ret res)) { s with heap := h', toks := tk }) →
      codeAny (model prog w) A (.builtin "dict.update.loop" ⟨[.ref S, .ref I, .int ix t, res], []⟩) R s
  | [], i, acc, ix, t, s, hsz, hln, ht, hit, hl, hm, hac, hR => by
    refine codeAny_builtin ud_entry ?_
    rw [Around.under_plainId ud_plain _]
    show wpAny _ A.in1 (pyNext (.ref I) >>= _) _ _ s
    refine wpAny_bind (wpAny_pyNext_list_end (A := A.in1) hh hit hl (by first | exact Array.getElem?_eq_none (Nat.le_of_eq hsz) | (simp at hsz; simp; omega)) fun h' he => ?_)
    show wpAny _ A.in1 (Builtin.Dict.addKeywords S [] >>= _) _ _ _
    refine wpAny_bind (wpAny_pure (wpAny_pure ?_))
    obtain ⟨o, es, ep, ho, hc, hd, he2, his, hn⟩ := hm
    refine hR h' s.toks ⟨o, es, ep, he _ _ hSI ho, hc, hd, he2, fun x hx => isK (his x hx) (hac x hx).2 he, hn⟩ fun b o _ hb e => he b o hb e
  | q :: rest, i, acc, ix, t, s, hsz, hln, ht, hit, hl, hm, hac, hR => by
    obtain ⟨b, hb, hbS, hbI, htup, hk, hkS, hkI⟩ := ht 0 q rfl
    rw [List.length_cons] at hsz hln
    refine codeAny_builtin ud_entry ?_
    rw [Around.under_plainId ud_plain _]
    show wpAny _ A.in1 (pyNext (.ref I) >>= _) _ _ s
    refine wpAny_bind (wpAny_pyNext_list_item (x := .ref b) hit hl (by simpa using hb) fun h1 hit1 hs1 => ?_)
    have ht1 : IsTup h1 b #[.ref q.2.1, q.2.2] := htup.extBut hs1.extBut hbI
    have hl1 : h1.IsList l items := hl.extBut hs1.extBut hlI
    have hm1 : h1.DictOfH knd S acc := by
      obtain ⟨o, es, ep, ho, hc, hd, he2, his, hn⟩ := hm
      exact ⟨o, es, ep, hs1.extBut _ _ hSI ho, hc, hd, he2, fun x hx => isK (his x hx) (hac x hx).2 hs1.extBut, hn⟩
    obtain ⟨o, ho, hc, n, hd⟩ := id ht1
    show wpAny _ A.in1 (holding [Value.ref b] _ >>= _) _ _ _
    refine wpAny_bind (wpAny_holding ?_)
    refine wpAny_bind (wpAny_tryCatch ?_)
    unfold Builtin.Dict.pairItems
    refine wpAny_bind (wpAny_typeOf (T := "tuple") ⟨o, ho, hc⟩ ?_)
    rw [if_pos (by first | decide | rfl | simp)]
    refine wpAny_bind (wpAny_seqItems ho hd (wpAny_pure ?_))
    show wpAny _ A.in1 (holding [Value.ref q.2.1, q.2.2] (dictSet S (.ref q.2.1) q.2.2)) _ _ _
    refine wpAny_holding (wpAny_dictSet_heap (knd := knd) (k := q.1) hu (isK hk hkI hs1.extBut) hm1 (fun h2 hm2 hs2 => ?_) (by omega))
    refine wpAny_pure ⟨plainId_quiet ud_plain _, upd_loopT (items := items) hh hu hlI hSI hSl isK hc0 rest (i + 1) (storedH acc q.1 q.2.1 q.2.2) (ix + 1) 0 _ (show items.size = i + 1 + rest.length by omega) ?_ (fun j q' e => ?_) ?_ ?_ hm2 ?_ fun h' tk hd' k => ?_⟩
    · have z := stoH_le acc q.1 q.2.1 q.2.2
      omega
    · obtain ⟨b', hb', hbS', hbI', htup', hk', hkS', hkI'⟩ := ht (j + 1) q' (by simpa using e)
      refine ⟨b', ?_, hbS', hbI', (htup'.extBut hs1.extBut hbI').extBut hs2.extBut hbS', isK (isK hk' hkI' hs1.extBut) hkS' hs2.extBut, hkS', hkI'⟩
      rw [show i + 1 + j = i + (j + 1) by omega]
      exact hb'
    · exact hit1.at fun o' e => hs2.extBut I o' (Ne.symm hSI) e
    · exact hl1.extBut hs2.extBut (Ne.symm hSl)
    · intro x hx
      obtain ⟨y, hy, e⟩ : ∃ y ∈ q :: acc, x.2.1 = y.2.1 := by
        unfold storedH at hx
        split at hx
        · obtain ⟨y, hy, rfl⟩ := List.mem_map.mp hx
          refine ⟨y, List.mem_cons_of_mem _ hy, ?_⟩
          unfold putAt
          split <;> rfl
        · rcases List.mem_append.mp hx with hx | hx
          · exact ⟨x, List.mem_cons_of_mem _ hx, rfl⟩
          · rw [List.mem_singleton.mp hx]
            exact ⟨q, List.mem_cons_self, rfl⟩
      rw [e]
      rcases List.mem_cons.mp hy with rfl | hy
      · exact ⟨hkS, hkI⟩
      · exact hac y hy
    · exact hR h' tk hd' fun c oc h3 h4 e => k c oc h3 h4 (hs2.extBut c oc h3 (hs1.extBut c oc h4 e))
theorem call_dict_pairsT {s : Shared} {l : Addr} {ol : Obj} {items : Array Value} {n : Nat} {prs : List (List Key × Addr × Value)} {Q : Value → Shared → Prop} (hh : A.handled = none) (hu : A.units + 2 < cLine) (hl : s.heap.get? l = some ol) (hc : ol.cls = .type "list") (hd : ol.dict = none)
    (hdat : ol.data = .seq items n) (hsz : items.size = prs.length) (hln : prs.length ≤ sizeLine)
    (ht : ∀ (j : Nat) (q : List Key × Addr × Value), prs[j]? = some q → ∃ (b : Addr), items[j]? = some (.ref b) ∧ IsTup s.heap b #[.ref q.2.1, q.2.2] ∧ IsTupleKey (mixKind prog w) s.heap q.1 q.2.1)
    (h : ∀ h' tk, h'.DictOfH (tupleKind (mixKind prog w)) s.heap.objs.size (stoAll [] prs) → (∀ b o, s.heap.get? b = some o → h'.get? b = some o) → Q (.ref s.heap.objs.size) { s with heap := h', toks := tk }) :
    wpAny (model prog w) A (call (.type "dict") [.ref l]) Q E s := by
  refine callType_codes (Q₁ := fun obj s₁ => obj = .ref s.heap.objs.size ∧ s₁ = { s with heap := s.heap.push { cls := .type "dict", data := .dict #[] } }) PySem.F.kt_called_dict (PySem.F.kt_typeCall_dict_1 _) PySem.F.entry_dict_init (kt_code_dict_new _ ⟨rfl, rfl⟩) ?_
  rintro obj s₁ ⟨rfl, rfl⟩
  have hnew : (s.heap.push { cls := .type "dict", data := .dict #[] }).DictOf (mixKind prog w) s.heap.objs.size [] := Heap.DictOf.new s.heap
  have hnewO : (s.heap.push { cls := .type "dict", data := .dict #[] }).get? s.heap.objs.size = some { cls := .type "dict", data := .dict #[] } := Heap.get?_push_size _ rfl
  have k0 : ∀ b o, s.heap.get? b = some o → (s.heap.push { cls := .type "dict", data := .dict #[] }).get? b = some o := fun b o e => Heap.get?_push_of_some _ e
  refine ⟨hnew.typeIs, PySem.F.args_dict_init_2 _ _, ?_⟩
  unfold Builtin.«dict.__init__»
  refine wpAny_bind ?_
  unfold Builtin.Dict.selfAndRest
  refine wpAny_bind (wpAny_notOrdered_dict hnew.typeIs ?_)
  show wpAny _ _ (pure (s.heap.objs.size, [Value.ref l])) _ _ _
  refine wpAny_pure ?_
  show wpAny _ _ (Builtin.Dict.updateFrom "dict.__init__" s.heap.objs.size (.ref l) [] .none) _ _ _
  unfold Builtin.Dict.updateFrom
  refine wpAny_bind (wpAny_typeOf (T := "list") ⟨ol, k0 _ _ hl, hc⟩ ?_)
  rw [if_pos (by first | decide | rfl | simp)]
  refine wpAny_bind (miss_list (k0 _ _ hl) hc hdat hd hh fun h1 tk1 hk1 => ?_)
  rw [if_pos (show (none : Option Value).isNone = true from rfl)]
  refine wpAny_bind (wpAny_rule ?_)
  have hl1 : h1.IsList l items := ⟨ol, hk1 _ _ (k0 _ _ hl), hc, n, hdat⟩
  have hS1 : s.heap.objs.size < h1.objs.size := Heap.lt_size (hk1 _ _ hnewO)
  refine wpAny_bind (wpAny_pyIter_list hl1 ?_)
  have k2 : ∀ b o, h1.get? b = some o → (h1.push { cls := .type "list_iterator", data := .fields #[.ref l, .int 0 0] }).get? b = some o := fun b o e => Heap.get?_push_of_some _ e
  have hlt : l < s.heap.objs.size := Heap.lt_size hl
  have key := upd_loopT (prog := prog) (w := w) (A := A.in1) (knd := tupleKind (mixKind prog w)) (R := wants (fun r s₂ => r = .none ∧ Q (.ref s.heap.objs.size) s₂) E) (S := s.heap.objs.size) (I := h1.objs.size) (l := l) (items := items) (res := Value.none) hh
    (show A.units + 1 + 1 < cLine by omega)
    (Nat.ne_of_lt (Nat.lt_trans hlt hS1)) (Nat.ne_of_lt hS1) (Nat.ne_of_gt hlt) (fun ⟨o, it, m, e1, e2⟩ ne he => ⟨o, it, m, he _ _ ne e1, e2⟩) trivial prs 0 [] 0 0
    { s with heap := h1.push { cls := .type "list_iterator", data := .fields #[.ref l, .int 0 0] }, toks := tk1 } (by rw [hsz, Nat.zero_add]) (by rw [List.length_nil, Nat.zero_add]; exact hln)
    (fun j q e => by
      obtain ⟨b, e1, e2, e3⟩ := ht j q e
      have hb : b < s.heap.objs.size := e2.lt
      obtain ⟨o3, i3, n3, g3, r3⟩ := e3
      have hq : q.2.1 < s.heap.objs.size := Heap.lt_size g3
      exact ⟨b, by rw [Nat.zero_add]; exact e1, Nat.ne_of_lt hb, Nat.ne_of_lt (Nat.lt_trans hb hS1), e2.keeps fun c o z => k2 _ _ (hk1 _ _ (k0 _ _ z)), ⟨o3, i3, n3, k2 _ _ (hk1 _ _ (k0 _ _ g3)), r3⟩, Nat.ne_of_lt hq, Nat.ne_of_lt (Nat.lt_trans hq hS1)⟩)
    ⟨_, Heap.get?_push_size _ rfl, rfl, rfl⟩ (hl1.at fun o e => k2 _ _ e) ⟨_, _, _, k2 _ _ (hk1 _ _ hnewO), ⟨rfl, rfl, rfl⟩, rfl, rfl, (fun x hx => by cases hx), List.nodup_nil⟩ (fun x hx => by cases hx)
    (fun h' tk hd' k => ⟨rfl, h h' tk hd' fun b o e => k b o (Nat.ne_of_lt (Heap.lt_size e)) (Nat.ne_of_lt (Nat.lt_trans (Heap.lt_size e) hS1)) (k2 _ _ (hk1 _ _ (k0 _ _ e)))⟩)
  first
    | exact wpAny_pure ⟨plainId_quiet ud_plain _, key⟩
    | exact wpAny_bind (wpAny_pure (wpAny_pure ⟨plainId_quiet ud_plain _, key⟩))
end
section
variable {X : Cx}
/-- what a pair holds: its key, a tuple, and its value -/
abbrev PairT (H : Hp) (p : Addr) (kv : List Key × V) : Prop := ∃ q, H p = some (.tup [.ref q, kv.2]) ∧ H q = some (.tup (kv.1.map kV))
theorem pairs_ofT {pins : List (Addr × Obj)} {σ : St} {H : Hp} {s : Shared} (I : Inv X pins σ H s) : ∀ {ps : List Addr} {kvs : List (List Key × V)}, Paired (PairT H) ps kvs →
    ∃ prs : List (List Key × Addr × Value), KT H kvs prs ∧ prs.length = ps.length ∧ ∀ (j : Nat) (q : List Key × Addr × Value), prs[j]? = some q → ∃ (b : Addr), ps[j]? = some b ∧ IsTup s.heap b #[.ref q.2.1, q.2.2] ∧ IsTupleKey (mixKind X.prog X.w) s.heap q.1 q.2.1
  | _, _, .nil => ⟨[], .nil, rfl, fun j q e => by simp at e⟩
  | _, _, .cons (a := p) (b := kv) h t => by
    obtain ⟨prs, r, hl, hp⟩ := pairs_ofT I t
    obtain ⟨q, h1, h2⟩ := h
    obtain ⟨_, its, rv, ht⟩ := (show ObjOk X.prog X.w H s.heap p (.tup [.ref q, kv.2]) from I.hok p _ h1)
    obtain ⟨u, y, ei, ru, ry⟩ := vals2 rv
    subst ei
    cases ru
    refine ⟨(kv.1, q, y) :: prs, .cons ⟨rfl, h2, ry⟩ r, by rw [List.length_cons, List.length_cons, hl], fun j z e => ?_⟩
    cases j with
    | zero =>
      have e' : (kv.1, q, y) = z := Option.some.inj e
      subst e'
      exact ⟨p, rfl, ht, key_of I.hok h2⟩
    | succ j =>
      obtain ⟨b, e1, e2⟩ := hp j z (by simpa using e)
      exact ⟨b, by simpa using e1, e2⟩
/-- dict(xs) of a list of pairs whose keys are tuples -/
def rDictPT (K : PySem.W.Frag) : List V → Hp → VK → Prop := fun xs H Q => ∃ (a : Addr) (ps : List Addr) (kvs : List (List Key × V)), xs = [.ref a] ∧ SqL K H a (ps.map V.ref) ∧ Paired (PairT H) ps kvs ∧
    ∀ p, H p = none → Q (.ref p) (upd H p (.dT (mergeT [] kvs)))
theorem call_dictPT (hcalm : X.calm = true) (hu : X.A.units + 70 < cLine) : CallR X (.type "dict") (rDictPT X.K) := by
  intro pins s σ H xs us Q I r q
  obtain ⟨a, ps, kvs, ex, hq, hp, q⟩ := q
  subst ex
  rw [Vals.ref1 r]
  obtain ⟨its, rv, pl, hz⟩ := I.list hq
  have ei := refs_at rv
  subst ei
  rw [List.length_map] at hz
  obtain ⟨prs, rel, hl, hpr⟩ := pairs_ofT I hp
  obtain ⟨o, n, ho, hc, hd, hdat⟩ := pl
  refine call_dict_pairsT (prs := prs) (I.ok.hd hcalm) (by omega) ho hc hd hdat (by simp [hl]) (by rw [hl]; exact hz) (fun j q' e => ?_) fun h' tk hd' k => ?_
  · obtain ⟨b, e1, e2, e3⟩ := hpr j q' e
    exact ⟨b, by simp [e1], e2, e3⟩
  · have hm : (s.heap.objs.size == sysModules) = false := beq_eq_false_iff_ne.mpr (Nat.ne_of_gt I.big)
    have hlen : (mergeT [] kvs).length ≤ sizeLine := by
      refine Nat.le_trans (length_mergeT kvs []) ?_
      rw [List.length_nil, Nat.zero_add, rel.length, hl]
      exact hz
    have hf : H s.heap.objs.size = none := I.hok.fresh (Nat.le_refl _)
    obtain ⟨o', es, ep, g1, g2, g3, g4, _, g6⟩ := hd'
    exact ⟨.ref s.heap.objs.size, upd H s.heap.objs.size (.dT (mergeT [] kvs)), I.laid (t' := tk) k (Nat.le_refl _) (show ObjOk X.prog X.w _ _ _ (.dT (mergeT [] kvs)) from ⟨hlen, hm, stoAll [] prs, (KT.merge rel .nil).keeps (fun b ys e => by rw [upd_ne (ne_of_none e hf)]; exact e), o', es, ep, g1, g2, g3, g4, g6⟩), rfl, q _ hf⟩
end
end L2
/-! d.items() of a dict whose keys are tuples: list(..), sorted(..); d.pop(k). -/
namespace L2
open PySem PySem.Spec PyProof.Rows PySem.W PySem.Calls
theorem paired_of {α β : Type} {F : α → β → Prop} : ∀ {xs : List α} {ys : List β}, xs.length = ys.length → (∀ (j : Nat) x y, xs[j]? = some x → ys[j]? = some y → F x y) → Paired F xs ys
  | [], [], _, _ => .nil
  | [], _ :: _, h, _ => by cases h
  | _ :: _, [], h, _ => by cases h
  | x :: xs, y :: ys, h, f => .cons (f 0 x y rfl rfl) (paired_of (Nat.succ.inj h) fun j a b e1 e2 => f (j + 1) a b e1 e2)
theorem paired_at {α β : Type} {F : α → β → Prop} : ∀ {xs : List α} {ys : List β}, Paired F xs ys → ∀ {j : Nat} {x : α} {y : β}, xs[j]? = some x → ys[j]? = some y → F x y
  | _, _, .nil, j, x, y, h, _ => by simp at h
  | _, _, .cons r t, 0, x, y, h, h' => by cases h; cases h'; exact r
  | _, _, .cons r t, j + 1, x, y, h, h' => paired_at (j := j) t h h'
section
variable {X : Cx} {pins : List (Addr × Obj)} {σ : St} {H : Hp} {s : Shared}
theorem items_laidT {H1 : Hp} {h' : Heap} {tk : Nat} {kvs : List (List Key × V)} {xs : List (List Key × Addr × Value)} {es : Array DictEntry} {as : List Addr} (I : Inv X pins σ H s) (I1 : Inv X pins σ H1 { s with heap := h', toks := tk }) (k1 : ∀ b o, H b = some o → H1 b = some o)
    (rel : KT H kvs xs) (he : es.toList = xs.map (entryOfKey (tupleKind (mixKind X.prog X.w)))) (hl : as.length = es.size) (hG : DT.Made es s.heap.objs.size h' as) (hn : ∀ a ∈ as, H1 a = none) :
    ∃ H2, Inv X pins σ H2 { s with heap := h', toks := tk } ∧ (∀ b o, H1 b = some o → H2 b = some o) ∧ Paired (PairT H2) as kvs := by
  have nd : as.Nodup := List.Pairwise.imp (fun h => Nat.ne_of_lt h) hG.rise
  have l2 : es.size = xs.length := size_of_entries he
  have l3 : kvs.length = xs.length := Paired.length rel
  obtain ⟨H2, I2, g, q⟩ := DX.takeT (P := fun a vs => ∃ (j : Nat) (kv : List Key × V) (c : Addr), as[j]? = some a ∧ kvs[j]? = some kv ∧ vs = [.ref c, kv.2] ∧ H c = some (.tup (kv.1.map kV))) I as H1 I1 nd fun a ha => by
    obtain ⟨j, hj⟩ := List.mem_iff_getElem?.mp ha
    obtain ⟨en, e1, e2⟩ := hG.pairs j a hj
    rw [entry_at he j] at e1
    cases hx : xs[j]? with
    | none =>
      rw [hx] at e1
      exact nomatch (show (none : Option DictEntry) = some en from e1)
    | some x =>
      rw [hx] at e1
      have ee : entryOfKey (tupleKind (mixKind X.prog X.w)) x = en := Option.some.inj e1
      obtain ⟨kv, hkv, r1, r2, r3⟩ := DX.pget rel hx
      refine ⟨Nat.le_of_lt (hG.above a ha), hn a ha, [.ref x.2.1, kv.2], ⟨j, kv, x.2.1, hj, hkv, rfl, r2⟩, fun H3 => ⟨(by rw [sizeLine_eq]; show 2 ≤ 16777216; omega), [Value.ref x.2.1, x.2.2], .cons rfl (.cons r3 .nil), ⟨_, e2, rfl, 0, ?_⟩⟩⟩
      rw [← ee]
      all_goals rfl
  refine ⟨H2, I2, g, paired_of (by omega) fun j a kv hj hk => ?_⟩
  obtain ⟨vs, ⟨i, kv', c, j1, j2, rfl, hc⟩, hH⟩ := q a (List.mem_of_getElem? hj)
  have eij : j = i := (List.getElem?_inj (List.getElem?_eq_some_iff.mp hj).1 nd).mp (hj.trans j1.symm)
  subst eij
  have ek : kv' = kv := Option.some.inj (j2.symm.trans hk)
  subst ek
  exact ⟨c, hH, g _ _ (k1 _ _ hc)⟩
theorem vals_rf : ∀ as : List Addr, Vals (as.map V.ref) (as.map Value.ref)
  | [] => .nil
  | _ :: as => .cons rfl (vals_rf as)
/-- list(d.items()) -/
def rListItT : List V → Hp → VK → Prop := fun vs H Q => ∃ (p d : Addr) (kvs : List (List Key × V)), vs = [.ref p] ∧ H p = some (DX.itemsO p d) ∧ H d = some (.dT kvs) ∧
  ∀ (H' : Hp) (l : Addr) (ps : List Addr), Same H H' → H l = none → H' l = some (.lst (ps.map V.ref)) → Paired (PairT H') ps kvs → Q (.ref l) H'
theorem call_list_itT (hcalm : X.calm = true) : CallR X (.type "list") rListItT := by
  intro pins s σ H vs us Q I r h
  obtain ⟨p, d, kvs, rfl, hp, hd, q⟩ := h
  rw [Vals.ref1 r]
  have view : s.heap.IsItemsView p d := (show ObjOk X.prog X.w H s.heap p (DX.itemsO p d) from I.hok p _ hp).1
  obtain ⟨z, hs0, xs, rel, o, es, ep, ho, hx, hdat, he, his, hn⟩ := dt_of I.hok hd
  have l2 : es.size = xs.length := size_of_entries he
  have l3 : kvs.length = xs.length := Paired.length rel
  have hm : DT.Raw s.heap d es ep := ⟨o, ho, hx, hdat⟩
  refine callType_codes (Q₁ := fun obj s₁ => obj = .ref s.heap.objs.size ∧ s₁ = { s with heap := s.heap.push { cls := .type "list", data := .seq #[] } }) PySem.F.called_list (PySem.F.typeCall_list_1 _) PySem.F.entry_list_init
    (code_list_new _ ⟨rfl, rfl⟩) fun obj s₁ h₁ => ?_
  obtain ⟨rfl, rfl⟩ := h₁
  have hS : (s.heap.push { cls := .type "list", data := .seq #[] }).get? s.heap.objs.size = some { cls := .type "list", data := .seq #[] } := Heap.get?_push_size _ rfl
  have hr : p < s.heap.objs.size := let ⟨_, ho, _⟩ := view; Heap.lt_size ho
  have hd' : d < s.heap.objs.size := hm.lt
  refine ⟨⟨_, hS, rfl⟩, PySem.F.args_list_init_2 _ _, ?_⟩
  show wpAny _ _ (do let old ← Builtin.List.listItems (.ref s.heap.objs.size); Builtin.List.listUpdate (.ref s.heap.objs.size) (fun _ => #[]); letGo old.toList.reverse; Builtin.List.listExtendWith (.ref s.heap.objs.size) (.ref p) .none) _ _ _
  refine wpAny_bind ?_
  unfold Builtin.List.listItems
  refine wpAny_bind (wpAny_seqItems hS rfl (wpAny_pure ?_))
  show wpAny _ _ (updateSeq s.heap.objs.size (fun _ => #[]) >>= fun _ => letGo (#[] : Array Value).toList.reverse >>= fun _ => Builtin.List.listExtendWith (.ref s.heap.objs.size) (.ref p) .none) _ _ _
  refine wpAny_bind (wpAny_updateSeq hS rfl ?_)
  have hS₂ := Heap.get?_update_self (Obj.mapSeq (fun _ => (#[] : Array Value))) hS rfl
  have oth : ∀ b o, b ≠ s.heap.objs.size → s.heap.get? b = some o → ((s.heap.push { cls := .type "list", data := .seq #[] }).update s.heap.objs.size (Obj.mapSeq (fun _ => (#[] : Array Value)))).get? b = some o :=
    fun b o hb e => (Heap.get?_update_other _ _ (Ne.symm hb)).trans (Heap.get?_push_of_some _ e)
  have hsz2 : ((s.heap.push { cls := .type "list", data := .seq #[] }).update s.heap.objs.size (Obj.mapSeq (fun _ => (#[] : Array Value)))).objs.size = s.heap.objs.size + 1 := by
    rw [(Heap.SameBut.update (h := s.heap.push { cls := .type "list", data := .seq #[] }) ..).1, Heap.size_push]
  refine wpAny_bind (wpAny_letGo ?_)
  refine DT.extI (A := X.A.in1) (prog := X.prog) (w := X.w) (R := wants (fun r s₂ => r = Value.none ∧ EP X pins σ Q (Value.ref s.heap.objs.size) s₂) X.xe) (s := { s with heap := (s.heap.push { cls := .type "list", data := .seq #[] }).update s.heap.objs.size (Obj.mapSeq (fun _ => (#[] : Array Value))) }) (es := es) (ep := ep) (I.ok.hd hcalm) (let ⟨o, ho, x⟩ := view; ⟨o, oth _ o (Nat.ne_of_lt hr) ho, x⟩) (hm.at' fun o e => oth d o (Nat.ne_of_lt hd') e) s.heap.objs.size (Nat.ne_of_gt hr) (Nat.ne_of_lt hd') .none _ hS₂ (fun h' tk acc c as hk hS' hl hG hacc => ?_) (by omega)
  have kp : ∀ b o, s.heap.get? b = some o → h'.get? b = some o := fun b o e => hk b o (Nat.ne_of_lt (Heap.lt_size e)) (oth b o (Nat.ne_of_lt (Heap.lt_size e)) e)
  have hG' : DT.Made es s.heap.objs.size h' as := hG.low (by show s.heap.objs.size ≤ ((s.heap.push { cls := .type "list", data := .seq #[] }).update s.heap.objs.size (Obj.mapSeq (fun _ => (#[] : Array Value)))).objs.size; rw [hsz2]; exact Nat.le_succ _)
  have hS0 : H s.heap.objs.size = none := I.hok.fresh (Nat.le_refl _)
  have I0 : Inv X pins σ H { s with heap := h', toks := tk } := I.kept kp
  have rv : Vals (as.map V.ref) acc.toList := by rw [hacc]; exact vals_rf as
  have I1 : Inv X pins σ (upd H s.heap.objs.size (.lst (as.map V.ref))) { s with heap := h', toks := tk } := I0.take (h' := h') (t' := tk) (fun b ob _ e => e) (I.fpOk (Nat.le_refl _) hS0) ⟨by rw [List.length_map]; omega, acc.toList, c, rv, by rw [Array.toArray_toList]; exact hS'⟩
  obtain ⟨H2, I2, g, pr⟩ := items_laidT I I1 (fun b o e => by rw [upd_ne (ne_of_none e hS0)]; exact e) rel he hl hG' fun a ha => by
    rw [upd_ne (Nat.ne_of_gt (hG'.above a ha))]
    exact I.hok.fresh (Nat.le_of_lt (hG'.above a ha))
  exact ⟨rfl, .ref _, H2, I2, rfl, q H2 _ as (fun b o e => g b o (by rw [upd_ne (ne_of_none e hS0)]; exact e)) hS0 (g _ _ upd_same) pr⟩
end
end L2
/-! sorted(d.items()), d.pop(k) for dicts whose keys are rows of whole numbers; sorted(set of rows). -/
namespace L2
open PySem PySem.Spec PyProof.Rows PySem.W PySem.Calls
/-- a dict's entries whose keys are rows -/
abbrev rowsKV (es : List (List Int × V)) : List (List Key × V) := es.map fun e => (row e.1, e.2)
theorem rowLe_total : TotalLe rowLe := (sortLe_total (listOrd itemOrd) false (fun x : List Int => keyToks (.tuple (x.map .int))) : TotalLe (dataLe false fun x : List Int => PyData.tuple (x.map .int)))
theorem nodup_of_row {l : List (List Int)} (h : (l.map row).Nodup) : l.Nodup := List.Pairwise.of_map row (fun a b n e => n (by rw [e])) h
mutual
theorem Dp.keeps {K : PySem.W.Frag} {H H' : Hp} (s : Same H H') : ∀ (d : PyData) (v : V), Dp K H v d → Dp K H' v d
  | _, _, .non => .non
  | _, _, .bl b => .bl b
  | _, _, .int i => .int i
  | _, _, .str x => .str x
  | _, _, .lst h t => .lst (s.seq h) (DpAll.keeps s _ _ t)
  | _, _, .tup h t => .tup (s.seqT h) (DpAll.keeps s _ _ t)
theorem DpAll.keeps {K : PySem.W.Frag} {H H' : Hp} (s : Same H H') : ∀ (ds : List PyData) (vs : List V), DpAll K H vs ds → DpAll K H' vs ds
  | _, _, .nil => .nil
  | _, _, .cons h t => .cons (Dp.keeps s _ _ h) (DpAll.keeps s _ _ t)
end
def unRow : PyData → List Int
  | .tuple (.tuple l :: _) => l.map fun e => match e with | .int i => i | _ => 0
  | _ => []
theorem unRow_eq (n : List Int) (r : List PyData) : unRow (.tuple (.tuple (n.map .int) :: r)) = n := by
  show (n.map PyData.int).map _ = n
  rw [List.map_map]
  exact List.map_id n
def unInts : PyData → List Int
  | .tuple l => l.map fun e => match e with | .int i => i | _ => 0
  | _ => []
theorem unInts_eq (n : List Int) : unInts (.tuple (n.map .int)) = n := by
  show (n.map PyData.int).map _ = n
  rw [List.map_map]
  exact List.map_id n
theorem row_inj {n m : List Int} (h : row n = row m) : n = m := by
  have := congrArg (List.map kInt) h
  rwa [row_kInt, row_kInt] at this
theorem dp_row {K : PySem.W.Frag} {H : Hp} {q : Addr} {n : List Int} (h : H q = some (.tup (n.map V.int))) : Dp K H (.ref q) (.tuple (n.map .int)) := .tup (SqT.of h) (dp_ints n)
section
variable {X : Cx} {pins : List (Addr × Obj)} {σ : St} {H : Hp} {s : Shared}
/-- sorted(d.items()) -/
def rSortItT (K : PySem.W.Frag) : List V → Hp → VK → Prop := fun vs H Q => ∃ (p d : Addr) (es : List (List Int × V)), vs = [.ref p] ∧ H p = some (DX.itemsO p d) ∧ H d = some (.dT (rowsKV es)) ∧ (∀ e ∈ es, ∃ D, Dp K H e.2 D) ∧
  ∀ (H' : Hp) (l : Addr) (zs : List (Addr × List Int × V)), Same H H' → H l = none → H' l = some (.lst (zs.map fun z => V.ref z.1)) → zs.map (·.2) = es.mergeSort (fun a b => rowLe a.1 b.1) → (∀ z ∈ zs, ∃ q, H' z.1 = some (.tup [.ref q, z.2.2]) ∧ H' q = some (.tup (z.2.1.map V.int))) → Q (.ref l) H'
theorem cr_sortedItT (hc : X.calm = true) (hu : X.A.units + 70 < cLine) : CallR X (.builtin "sorted") (rSortItT X.K) := by
  intro pins s σ H vs us Q I r h
  obtain ⟨p, d, es0, rfl, hp, hd, hD, q⟩ := h
  rw [Vals.ref1 r]
  have view : s.heap.IsItemsView p d := (show ObjOk X.prog X.w H s.heap p (DX.itemsO p d) from I.hok p _ hp).1
  obtain ⟨z, hs0, xs, rel, o, es, ep, ho, hx, hdat, he, his, hn⟩ := dt_of I.hok hd
  have l2 : es.size = xs.length := size_of_entries he
  have l3 : (rowsKV es0).length = xs.length := Paired.length rel
  have l4 : (rowsKV es0).length = es0.length := List.length_map ..
  have hm : DT.Raw s.heap d es ep := ⟨o, ho, hx, hdat⟩
  obtain ⟨ek, _⟩ := KT.all rel
  have nd : (es0.map (·.1)).Nodup := by
    rw [← ek] at hn
    have : (rowsKV es0).map (·.1) = (es0.map (·.1)).map row := by rw [List.map_map, List.map_map]; rfl
    rw [this] at hn
    exact nodup_of_row hn
  have hD' : ∀ v : V, ∃ D, (∃ e ∈ es0, e.2 = v) → Dp X.K H v D := fun v => by
    by_cases h : ∃ e ∈ es0, e.2 = v
    · obtain ⟨e, he, rfl⟩ := h
      obtain ⟨D, hD⟩ := hD e he
      exact ⟨D, fun _ => hD⟩
    · exact ⟨.none, fun z => absurd z h⟩
  let DD : V → PyData := fun v => Classical.choose (hD' v)
  have hDD : ∀ e ∈ es0, Dp X.K H e.2 (DD e.2) := fun e he => Classical.choose_spec (hD' e.2) ⟨e, he, rfl⟩
  refine sorted_by (PP := fun h' vs => (∀ b o, s.heap.get? b = some o → h'.get? b = some o) ∧ ∃ as : List Addr, vs = as.map Value.ref ∧ as.length = es.size ∧ DT.Made es s.heap.objs.size h' as) (fun R E' k => ?_) (fun h' vs hp' => ?_)
  · exact DT.collectI (A := X.A.in1) (es := es) (ep := ep) (I.ok.hd hc) view hm (by omega) fun h' tk as kp _ hl hG => k h' tk _ ⟨kp, as, rfl, hl, hG⟩
  · obtain ⟨kp, as, rfl, hl, hG⟩ := hp'
    obtain ⟨H2, I2, g, pr⟩ := items_laidT (tk := s.toks) I (I.kept kp) (fun b o e => e) rel he hl hG fun a ha => I.hok.fresh (Nat.le_of_lt (hG.above a ha))
    have J : ∀ tk, Inv X pins σ H2 { s with heap := h', toks := tk } := fun tk => I2.tok tk
    have s2 : Same H H2 := fun b o e => g b o e
    let B : List (Addr × List Int × V) := as.zip es0
    have lB : as.length = es0.length := by omega
    have B1 : B.map (·.1) = as := List.map_fst_zip (by omega)
    have B2 : B.map (·.2) = es0 := List.map_snd_zip (by omega)
    have hB : ∀ b ∈ B, ∃ q, H2 b.1 = some (.tup [.ref q, b.2.2]) ∧ H2 q = some (.tup (b.2.1.map V.int)) := fun b hb => by
      obtain ⟨j, hj⟩ := List.mem_iff_getElem?.mp hb
      obtain ⟨h1, h2⟩ := List.getElem?_zip_eq_some.mp hj
      obtain ⟨q, e1, e2⟩ := paired_at pr (j := j) (x := b.1) (y := (row b.2.1, b.2.2)) h1 (by rw [List.getElem?_map, h2]; rfl)
      exact ⟨q, e1, by rw [← row_kV]; exact e2⟩
    let f : Addr × List Int × V → V × PyData := fun b => (V.ref b.1, .tuple [.tuple (b.2.1.map .int), DD b.2.2])
    have rv : Vals ((B.map f).map (·.1)) (as.map Value.ref) := by
      have e1 : (B.map f).map (·.1) = (B.map (·.1)).map V.ref := by rw [List.map_map, List.map_map]; rfl
      rw [e1, B1]
      exact vals_rf as
    have hmem : ∀ b ∈ B, b.2 ∈ es0 := fun b hb => by rw [← B2]; exact List.mem_map.mpr ⟨b, hb, rfl⟩
    refine ⟨H2, B.map f, fun b => .tuple ((unRow b.2).map .int), J, rv, sorts_firsts (fun b => unRow b.2) ?_ ?_ ?_ (by show X.A.units + 1 + 1 + 64 < cLine; omega), by rw [List.length_map]; show B.length ≤ _; rw [← List.length_map (f := fun b : Addr × List Int × V => b.2), B2]; omega, fun l nl => ?_⟩
    · refine (PySem.W.each_mem (each_vals (R := fun _ => True) rv)).mono fun v b ⟨h1, h2⟩ => ?_
      obtain ⟨y, hy, rfl⟩ := List.mem_map.mp h2
      obtain ⟨q, e1, e2⟩ := hB y hy
      refine Dp.reads (J 0) _ _ v (.tup (SqT.of e1) ?_) h1
      exact .cons (dp_row e2) (.cons (Dp.keeps s2 _ _ (hDD _ (hmem y hy))) .nil)
    · intro b hb
      obtain ⟨y, hy, rfl⟩ := List.mem_map.mp hb
      refine ⟨[DD y.2.2], ?_⟩
      show PyData.tuple [_, _] = PyData.tuple (PyData.tuple ((unRow (.tuple (.tuple (y.2.1.map .int) :: [DD y.2.2]))).map .int) :: _)
      rw [unRow_eq]
    · have e1 : (B.map f).map (fun b => unRow b.2) = es0.map (·.1) := by
        rw [← B2, List.map_map, List.map_map]
        exact List.map_congr_left fun y _ => unRow_eq y.2.1 [DD y.2.2]
      rw [e1]
      exact nd
    · have e1 : (B.mergeSort (fun a b => rowLe a.2.1 b.2.1)).map f = (B.map f).mergeSort (PySem.W.dataLe false fun b => .tuple ((unRow b.2).map .int)) := by
        refine PySem.W.sort_maps f fun a _ b _ => ?_
        have ea : unRow (f a).2 = a.2.1 := unRow_eq a.2.1 [DD a.2.2]
        have eb : unRow (f b).2 = b.2.1 := unRow_eq b.2.1 [DD b.2.2]
        unfold rowLe PySem.W.dataLe PySem.W.sortLe
        simp only [ea, eb]
      have e2 : (B.mergeSort (fun a b => rowLe a.2.1 b.2.1)).map (·.2) = es0.mergeSort (fun a b => rowLe a.1 b.1) := by
        rw [← B2]
        exact PySem.W.sort_maps _ fun a _ b _ => rfl
      have e3 : ((B.map f).mergeSort (PySem.W.dataLe false fun b => .tuple ((unRow b.2).map .int))).map (·.1) = (B.mergeSort (fun a b => rowLe a.2.1 b.2.1)).map fun z => V.ref z.1 := by
        rw [← e1, List.map_map]
        rfl
      refine q _ l _ (s2.put ?_) ?_ (by rw [upd_same, e3]) e2 fun z hz => ?_
      · cases e : H l with
        | none => rfl
        | some o => exact absurd (s2 _ _ e) (by rw [nl]; intro z; cases z)
      · cases e : H l with
        | none => rfl
        | some o => exact absurd (s2 _ _ e) (by rw [nl]; intro z; cases z)
      · obtain ⟨q, g1, g2⟩ := hB z (List.mem_mergeSort.mp hz)
        exact ⟨q, by rw [upd_ne (ne_of_none g1 nl)]; exact g1, by rw [upd_ne (ne_of_none g2 nl)]; exact g2⟩
end
end L2
/-! d.pop(k) for dicts whose keys are tuples. -/
namespace L2
open PySem PySem.Spec PyProof.Rows PySem.W PySem.Calls
section
variable {K : Type} [DecidableEq K] {prog : Program} {w : World} {knd : HeapKind prog w K} {A : Around} {E : Value → Shared → Prop} {s : Shared}
theorem meetsPop1 {d b : Addr} {k : K} (hd : (d == sysModules) = false) :
    MeetsIn prog w (Builtin.«dict.pop» ⟨[.ref d, .ref b], []⟩) (fun A R s => ∃ xs p, knd.room A.in1 ∧ knd.is s.heap k b ∧ s.heap.DictOfH knd d xs ∧ xs.length ≤ sizeLine ∧ atKey xs k = some p ∧
      ∀ h' tk, h'.DictOfH knd d (DT.dropH xs k) → Heap.SameBut d s.heap h' → R (.ok (.ret p.2)) { s with heap := h', toks := tk }) :=
  .of_wp fun A R s ⟨xs, p, hu, hkey, hm, hsz, hat, hsome⟩ => by
    obtain ⟨o, es, ep, ho, hc, hdat, he, his, hn⟩ := id hm
    have hes : es.size = xs.length := size_of_entries he
    have hpart : (keyPart (Value.ref b)).isSome = false := rfl
    unfold Builtin.«dict.pop»
    refine wpAny_bind ?_
    unfold Builtin.Dict.keyAndDefault
    refine wpAny_bind (wpAny_notOrdered_dict hm.typeIs ?_)
    show wpAny _ _ (pure (d, Value.ref b, none)) _ _ s
    refine wpAny_pure ?_
    simp only [hpart, Bool.false_eq_true, if_false]
    refine wpAny_bind (wpAny_dictEntries ho hdat (wpAny_bind (wpAny_pure ?_)))
    cases hem : es.isEmpty with
    | true =>
      have h0 : xs = [] := by
        have z : es.size = 0 := by simpa using hem
        exact List.length_eq_zero_iff.mp (by omega)
      rw [h0] at hat
      exact nomatch (show none = some p from hat)
    | false =>
      simp only [Bool.false_eq_true, if_false]
      refine wpAny_bind (DT.takeH hu hkey hm hsz (fun hno => ?_) fun p' e hp hev h' hm' hs' => ?_)
      · rw [hat] at hno; cases hno
      · rw [hat] at hp
        cases hp
        simp only [Option.isNone_some, Bool.false_eq_true, if_false]
        exact wpAny_bind (wpAny_letGo (wpAny_pure ⟨e.val, rfl, by rw [hev]; exact hsome h' _ hm' hs'⟩))
end
section
variable {X : Cx}
def rPop1T : V → List V → Hp → VK → Prop := fun x xs H Q => ∃ (a : Addr) (kvs : List (List L2.Key × V)) (k : List L2.Key) (b : Addr) (v : V), x = .ref a ∧ xs = [.ref b] ∧ H a = some (.dT kvs) ∧ H b = some (.tup (k.map kV)) ∧
  valV kvs k = some v ∧ Q v (upd H a (.dT (dropK kvs k)))
theorem mt_pop1T (hu : X.A.units + 1 < cLine) : MtR X "dict.pop" rPop1T := by
  intro pins s σ H x xs v us Q I rx rxs h
  obtain ⟨a, kvs, k, b, v0, rfl, rfl, ha, hb, ev, q1⟩ := h
  cases rx
  rw [Vals.ref1 rxs]
  obtain ⟨z, hd, xs', rel, dd⟩ := dt_of I.hok ha
  have hz : xs'.length ≤ sizeLine := by rw [← Paired.length rel]; exact z
  have r := rel.val k
  rw [ev] at r
  obtain ⟨p, hp, rv⟩ : ∃ p, atKey xs' k = some p ∧ RelV v0 p.2 := by
    cases e : atKey xs' k with
    | none =>
      rw [e] at r
      exact (show False from r).elim
    | some p =>
      rw [e] at r
      exact ⟨p, rfl, r⟩
  refine call_meetsIn PySem.F.slot_dict_pop dd.typeIs PySem.F.entry_dict_pop (PySem.F.args_dict_pop_2 _ _) (meetsPop1 (knd := tupleKind (mixKind X.prog X.w)) (k := k) hd)
    ⟨xs', p, tupleKind_room_in1 hu, key_of I.hok hb, dd, hz, hp, fun h' tk dd' hs => ?_⟩
  obtain ⟨o, es, ep, hq, h2, h3, h4, _, h5⟩ := dd'
  have I2 : Inv X pins σ (upd H a (.dT (dropK kvs k))) { s with heap := h', toks := tk } :=
    d_write I (by rw [ha]; exact True.intro) hs ⟨o, hq⟩ ⟨Nat.le_trans (dropK_le kvs k) z, hd, _, (DX.KT_drop k rel).keeps (fun c ys ec => (by rw [upd_ne (ne_of ec ha (fun z => nomatch z))]; exact ec)), o, es, ep, hq, h2, h3, h4, h5⟩
  show EP X pins σ Q p.2 _
  exact ⟨v0, _, I2, rv, q1⟩
end
end L2
/-! rows in order; sorted(set of rows). -/
namespace L2
open PySem PySem.Spec PyProof.Rows PySem.W PySem.Calls
theorem toks_rows : ∀ a b : List Int, keyToksAll (a.map PyData.int) = keyToksAll (b.map PyData.int) → a = b
  | [], [], _ => rfl
  | [], y :: b, h => by
    rw [List.map_nil, List.map_cons, keyToksAll, keyToksAll] at h
    have := (List.cons.inj h).1
    injection this with z
    exact absurd z (by decide)
  | x :: a, [], h => by
    rw [List.map_nil, List.map_cons, keyToksAll, keyToksAll] at h
    have := (List.cons.inj h).1
    injection this with z
    exact absurd z (by decide)
  | x :: a, y :: b, h => by
    rw [List.map_cons, List.map_cons, keyToksAll, keyToksAll, keyToks, keyToks] at h
    have h2 := (List.cons.inj h).2
    rw [List.singleton_append, List.singleton_append] at h2
    obtain ⟨h3, h4⟩ := List.cons.inj h2
    injection h3 with h3
    rw [h3, toks_rows a b h4]
theorem rowLe_anti {a b : List Int} (h1 : rowLe a b = true) (h2 : rowLe b a = true) : a = b := by
  unfold rowLe dataLe sortLe at h1 h2
  rw [cond_false, Bool.not_eq_true'] at h1 h2
  have e := (listOrd itemOrd).total _ _ h2 h1
  refine toks_rows a b ?_
  have e' : keyToks (.tuple (a.map .int)) = keyToks (.tuple (b.map .int)) := e
  rwa [keyToks, keyToks] at e'
theorem sortRows_sorted (l : List (List Int)) : (sortRows l).Pairwise (fun a b => rowLe a b = true) := sort_pairwise rowLe_total l
theorem sortRows_perm {l m : List (List Int)} (h : l.Perm m) : sortRows l = sortRows m :=
  List.Perm.eq_of_pairwise (le := fun a b => rowLe a b = true) (fun a b _ _ h1 h2 => rowLe_anti h1 h2) (sortRows_sorted l) (sortRows_sorted m) ((List.mergeSort_perm l rowLe).trans (h.trans (List.mergeSort_perm m rowLe).symm))
theorem sortRows_mem {l : List (List Int)} {x : List Int} : x ∈ sortRows l ↔ x ∈ l := List.mem_mergeSort
/-- two lists of rows, no two the same, with the same members -/
theorem sortRows_same {l m : List (List Int)} (hl : l.Nodup) (hm : m.Nodup) (h : ∀ x, x ∈ l ↔ x ∈ m) : sortRows l = sortRows m := sortRows_perm ((List.perm_ext_iff_of_nodup hl hm).mpr h)
section
variable {X : Cx} {pins : List (Addr × Obj)} {σ : St} {H : Hp} {s : Shared} {Q : VK}
theorem sorted_byS {x : Value} {PP : Shared → List Value → Prop}
    (hcol : ∀ (R : List Value → Shared → Prop) (E' : Value → Shared → Prop), (∀ (s1 : Shared) (vs : List Value), PP s1 vs → R vs s1) → wpAny (model X.prog X.w) X.A.in1 (collect x) R E' s)
    (hx : ∀ s1 vs, PP s1 vs → ∃ (H1 : Hp) (xs : List (V × PyData)) (enc : V × PyData → PyData), Inv X pins σ H1 s1 ∧ Vals (xs.map (·.1)) vs ∧ SortsBy X.prog X.w X.A.in1.in1 s1.heap vs xs enc ∧ xs.length ≤ sizeLine ∧
      ∀ p, H1 p = none → Q (.ref p) (upd H1 p (.lst ((xs.mergeSort (PySem.W.dataLe false enc)).map (·.1))))) :
    wpAny (model X.prog X.w) X.A (call (.builtin "sorted") [x]) (EP X pins σ Q) X.xe s := by
  refine Calls.call_function_entry PyProof.Rows.kind_sorted PyProof.Rows.plain_sorted PyProof.Rows.entry_sorted (PyProof.Rows.args_sorted1 _) ?_
  unfold Builtin.«sorted»
  refine wpAny_bind (m := checkCount "sorted" 1 1 _) (wpAny_pure ?_)
  refine wpAny_bind (hcol _ _ fun s1 vs hp => ?_)
  obtain ⟨H1, xs, enc, I1, rv, S, hz, q⟩ := hx s1 vs hp
  have hl : vs.length = xs.length := by have := rv.length; rw [List.length_map] at this; exact this.symm
  refine wpAny_bind (wpAny_newList ?_ (by rw [hl]; exact hz))
  have hoL : (s1.heap.push (seqObj "list" vs.toArray 0)).get? s1.heap.objs.size = some (seqObj "list" vs.toArray 0) := Heap.get?_push_size _ rfl
  show wpAny _ _ _ _ _ { s1 with heap := s1.heap.push (seqObj "list" vs.toArray 0) }
  obtain ⟨f, S1, ek⟩ := S { s1 with heap := PySem.W.sortingHeap (s1.heap.push (seqObj "list" vs.toArray 0)) s1.heap.objs.size vs } fun b o e =>
    PySem.W.sortingHeap_old (Nat.ne_of_lt (Heap.lt_size e)) (Heap.get?_push_of_some _ e)
  refine wpAny_bind (wpAny_holding (wpAny_call_entry PyProof.Rows.slot_list_sort ⟨_, hoL, rfl⟩ PyProof.Rows.entry_list_sort
    (PySem.W.list_sort_vals (s := { s1 with heap := s1.heap.push (seqObj "list" vs.toArray 0) }) (κ := tokKind f) hoL S1 (by rw [hl]; exact hz) ⟨_, rfl, ?_⟩) (PyProof.Rows.args_list_sort _)))
  have eo := PySem.W.sortVals_each (κ := tokKind f) (R := fun v (b : V × PyData) => RelV b.1 v) (rev := false) (fun b => PySem.W.keyToks (enc b)) (each_vals (R := fun _ => True) rv) ek
  obtain ⟨e', he'⟩ := PyProof.Rows.sortedHeap_at (vs := vs) (out := (PySem.W.sortVals (tokKind f) false vs vs).toArray) hoL
  have hlen : ((xs.mergeSort (PySem.W.dataLe false enc)).map (·.1)).length ≤ sizeLine := by
    rw [List.length_map, List.length_mergeSort]
    exact hz
  refine wpAny_pure ⟨_, rfl, .ref s1.heap.objs.size, upd H1 s1.heap.objs.size (.lst ((xs.mergeSort (PySem.W.dataLe false enc)).map (·.1))), I1.laid (t' := s1.toks) (fun b u e => ?_) (Nat.le_refl _)
    (show ObjOk X.prog X.w _ _ _ (.lst ((xs.mergeSort (PySem.W.dataLe false enc)).map (·.1))) from ⟨hlen, PySem.W.sortVals (tokKind f) false vs vs, e', vals_each eo, he'⟩), rfl, q _ (I1.hok.fresh (Nat.le_refl _))⟩
  have hb : b < s1.heap.objs.size := Heap.lt_size e
  rw [PyProof.Rows.sortedHeap_old (Nat.ne_of_lt hb) (by rw [size_push']; exact Nat.lt_succ_of_lt hb)]
  exact Heap.get?_push_of_some _ e
/-- sorted(set), the tuples rows of any lengths, none empty -/
def rSortedSR (K : PySem.W.Frag) (P : Program) (w : World) : List V → Hp → VK → Prop := fun vs H Q => ∃ (a : Addr) (L : List (Addr × List Int)), vs = [V.ref a] ∧ H a = some (SetTO P w a L) ∧ (∀ p ∈ L, H p.1 = some (.tup (p.2.map V.int))) ∧ (∀ p ∈ L, p.2 ≠ []) ∧
  ∀ (p : Addr) (zs : List (Addr × List Int)), H p = none → (L.map (·.2)).Nodup → zs.map (·.2) = sortRows (L.map (·.2)) → (∀ z ∈ zs, H z.1 = some (.tup (z.2.map V.int))) → Q (.ref p) (upd H p (.lst (zs.map fun z => V.ref z.1)))
theorem cr_sortedSR (hc : X.calm = true) (hu : X.A.units + 70 < cLine) : CallR X (.builtin "sorted") (rSortedSR X.K X.prog X.w) := by
  intro pins s σ H vs us Q I r h
  obtain ⟨a, L, rfl, ha, hk, hne, q⟩ := h
  have R0 : SetT0 X.prog X.w s.heap a L := (I.hok a _ ha).1
  obtain ⟨es, ep, t, R⟩ := R0.full fun p hp => I.isT (SqT.of (K := X.K) (hk p hp))
  rw [Vals.ref1 r]
  obtain ⟨o, ho, hex, hd⟩ := R.ob
  have hsz := R.size
  have hfew := R.few
  have hes : es.toList.map (·.2) = L.map fun q => Value.ref q.1 := by
    rw [R.rows]
    unfold rowsOf
    rw [List.map_map] <;> rfl
  refine sorted_byS (PP := fun s1 vs => (∀ b o, s.heap.get? b = some o → s1.heap.get? b = some o) ∧ s.heap.objs.size ≤ s1.heap.objs.size ∧ s1.gens = s.gens ∧ s1.os = s.os ∧ vs.Perm (L.map fun q => Value.ref q.1)) (fun R' E' k => ?_) (fun s1 vs hp => ?_)
  · exact collect_set (A := X.A.in1) (I.ok.hd hc) ⟨o, ho, hex.1, hd⟩ R.fits (by unfold scanBound; omega) R.tab.ris R.led fun s1 vs k1 hz g1 o1 pm => k s1 vs ⟨k1, hz, g1, o1, by rw [← hes]; exact pm⟩
  · obtain ⟨k1, hz, g1, o1, pm⟩ := hp
    obtain ⟨L1, rfl, pm1⟩ : ∃ L1 : List (Addr × List Int), vs = L1.map (fun q => Value.ref q.1) ∧ L1.Perm L := by
      obtain ⟨zs, pz, ez⟩ := perm_lift (fun q : Addr × List Int => Value.ref q.1) pm L rfl
      exact ⟨zs, ez.symm, pz⟩
    have J : Inv X pins σ H s1 := by
      refine I.call' (ch := []) o1 ⟨fun b o q _ _ _ => k1 b o q, fun b o q _ _ _ => ⟨o.slots, k1 b o q⟩, fun b o q n _ => n, fun b o q _ => ⟨o, k1 b o q⟩, fun b xs q => q, fun b o u q => q, fun b ps q => ⟨#[], by rw [q]; simp⟩⟩ (fun b u q => (I.hok b u q).stay (fun d v _ y => k1 d v y) (fun d y => y) fun d xs y => y) (by rw [g1]; exact I.bare) fun b z => by simp at z
    let f : Addr × List Int → V × PyData := fun b => (V.ref b.1, .tuple (b.2.map .int))
    have rv : Vals ((L1.map f).map (·.1)) (L1.map fun q => Value.ref q.1) := by
      rw [List.map_map]
      exact vals_of_refs L1
    have hm : ∀ y ∈ L1, y ∈ L := fun y hy => pm1.mem_iff.mp hy
    refine ⟨H, L1.map f, (·.2), J, rv, sorts_data ?_ ?_ ?_ ?_, by rw [List.length_map, pm1.length_eq, sizeLine_eq]; omega, fun p np => ?_⟩
    · refine (PySem.W.each_mem (each_vals (R := fun _ => True) rv)).mono fun v b ⟨h1, h2⟩ => ?_
      obtain ⟨y, hy, rfl⟩ := List.mem_map.mp h2
      exact Dp.reads J _ _ v (dp_row (hk y (hm y hy))) h1
    · intro a ha b hb
      obtain ⟨x, hx, rfl⟩ := List.mem_map.mp ha
      obtain ⟨y, hy, rfl⟩ := List.mem_map.mp hb
      obtain ⟨x', _, rfl⟩ := List.mem_map.mp hx
      obtain ⟨y', _, rfl⟩ := List.mem_map.mp hy
      exact alike_rows _ _
    · refine .inl fun a ha => ?_
      obtain ⟨x, hx, rfl⟩ := List.mem_map.mp ha
      obtain ⟨x', hx', rfl⟩ := List.mem_map.mp hx
      have hn := hne x' (hm x' hx')
      show ∃ y r, PyData.tuple (x'.2.map .int) = .tuple (y :: r)
      cases e : x'.2 with
      | nil => exact absurd e hn
      | cons y r => exact ⟨_, _, rfl⟩
    · intro b hb
      obtain ⟨x', hx', rfl⟩ := List.mem_map.mp hb
      have := depth_row x'.2
      show X.A.units + 1 + 1 + (PyData.tuple (x'.2.map .int)).depth < _
      omega
    · have e1 : (L1.mergeSort (fun a b => rowLe a.2 b.2)).map f = (L1.map f).mergeSort (PySem.W.dataLe false (·.2)) := PySem.W.sort_maps f fun a _ b _ => rfl
      have e2 : (L1.mergeSort (fun a b => rowLe a.2 b.2)).map (·.2) = sortRows (L.map (·.2)) := by
        rw [← sortRows_perm (pm1.map (·.2))]
        exact PySem.W.sort_maps _ fun a _ b _ => rfl
      have e3 : ((L1.map f).mergeSort (PySem.W.dataLe false (·.2))).map (·.1) = (L1.mergeSort (fun a b => rowLe a.2 b.2)).map fun z => V.ref z.1 := by
        rw [← e1, List.map_map]
        rfl
      rw [e3]
      exact q p _ np R.nd e2 fun z hz => hk z (hm z (List.mem_mergeSort.mp hz))
end
end L2
/-! enumerate over a tuple; t += u. -/
namespace PySem
open Sem (wp)
open AutoSeq1 (wpAny_loadPart')
theorem meets_enumerate_newTup (l : Addr) (items : Array Value) (n : Nat) (dct : Option Addr) (sl : Array (Option Value)) :
    Meets (Builtin.«enumerate.__new__» ⟨[.type "enumerate", .ref l], []⟩) (fun _ R s => s.heap.get? l = some { cls := .type "tuple", dict := dct, data := .seq items n, slots := sl } ∧
      R (.ok (.ret (.ref (s.heap.push { cls := .type "tuple_iterator", data := .fields #[.ref l, .int 0 0] }).objs.size)))
        { s with heap := (s.heap.push { cls := .type "tuple_iterator", data := .fields #[.ref l, .int 0 0] }).push { cls := .type "enumerate", data := .fields #[.none, .bool false, .ref s.heap.objs.size, rawInt 0, .none, .none] } }) :=
  .of_wp fun prog w A R s h => by
    obtain ⟨hp, g, d, tk, os⟩ := s; obtain ⟨hl, h⟩ := h
    have hsub := sub_enumerate
    have hL : Heap.IsTuple (Shared.heap ⟨hp, g, d, tk, os⟩) l items := ⟨_, hl, rfl, n, rfl⟩
    wp_walk using wpAny_loadPart' hl
    refine wpAny_stack_any fun st => wpAny_pure ?_
    split
    · rename_i c _ _ _ _ _
      cases (c == Value.type "enumerate")
      · wp_walk using wpAny_loadPart' hl, wpAny_pyIter_tuple hL
        exact ⟨_, rfl, h⟩
      · wp_walk using wpAny_loadPart' hl, wpAny_pyIter_tuple hL
        exact ⟨_, rfl, h⟩
    · wp_walk using wpAny_loadPart' hl, wpAny_pyIter_tuple hL
      exact ⟨_, rfl, h⟩
section
variable {prog : Program} {w : World} {A : Around} {E : Value → Shared → Prop} {s : Shared}
theorem call_enumerate_tuple {l : Addr} {items : Array Value} {Q : Value → Shared → Prop} (hL : s.heap.IsTuple l items)
    (h : ∀ h', IsEnum h' (s.heap.objs.size + 1) s.heap.objs.size 0 .none → h'.IsTupleIter s.heap.objs.size l 0 → h'.objs.size = s.heap.objs.size + 2 →
      (∀ b o, s.heap.get? b = some o → h'.get? b = some o) → Q (.ref (s.heap.objs.size + 1)) { s with heap := h' }) :
    wpAny (model prog w) A (call (.type "enumerate") [.ref l]) Q E s := by
  obtain ⟨⟨c, dct, dt, sl⟩, hl, hc, n, hd⟩ := hL
  replace hc : c = .type "tuple" := hc
  replace hd : dt = .seq items n := hd
  subst hc hd
  refine callType_new F.called_enumerate (by decide) (F.typeCall_enumerate_1 _) (F.newCall_enumerate_1 _) (fun obj => F.args_object_init_2 obj _) F.entry_enumerate_new
    (meets_enumerate_newTup l items n dct sl) ⟨hl, ?_⟩
  have hz : (s.heap.push { cls := .type "tuple_iterator", data := .fields #[.ref l, .int 0 0] }).objs.size = s.heap.objs.size + 1 := Heap.size_push ..
  show _ ∧ _
  rw [hz]
  have he : IsEnum ((s.heap.push { cls := .type "tuple_iterator", data := .fields #[.ref l, .int 0 0] }).push
      { cls := .type "enumerate", data := .fields #[.none, .bool false, .ref s.heap.objs.size, rawInt 0, .none, .none] }) (s.heap.objs.size + 1) s.heap.objs.size 0 .none := by
    have := Heap.get?_push_size (s.heap.push { cls := .type "tuple_iterator", data := .fields #[.ref l, .int 0 0] })
      (o := { cls := .type "enumerate", data := .fields #[.none, .bool false, .ref s.heap.objs.size, rawInt 0, .none, .none] }) rfl
    rw [hz] at this; exact this
  refine ⟨⟨_, he, rfl⟩, h _ he ⟨_, Heap.get?_push_of_some _ (Heap.get?_push_size _ rfl), rfl, rfl⟩ (by rw [Heap.size_push, hz]) fun b o x => Heap.get?_push_of_some _ (Heap.get?_push_of_some _ x)⟩
end
end PySem
namespace L2
open PySem PySem.Spec PyProof.Rows HT
/-- enumerate over the tuple at a -/
def IteT (K : PySem.W.Frag) (a : Addr) : It :=
  ⟨fun i H => ∃ (xs : List V) (x : V), SqT K H a xs ∧ xs[i]? = some x, fun i H v H' => ∃ T x, v = .ref T ∧ H T = none ∧ H' = upd H T (.tup [.int (i : Nat), x]) ∧ ∀ xs, SqT K H a xs → xs[i]? = some x, fun i H => ∃ xs : List V, SqT K H a xs ∧ xs.length ≤ i⟩
theorem turn_enumT {P : Program} {w : World} {K : PySem.W.Frag} {elts : List Expr} {kk : Nat} {tpos : Pos} (a e it : Addr) :
    Turn P w K (.Tuple elts kk tpos) (IteT K a) [e, it] e (fun i h => (∃ old, IsEnum h e it ((i : Nat) : Int) old) ∧ h.IsTupleIter it a i ∧ e ≠ it ∧ a ≠ it ∧ a ≠ e) where
  mem := by simp
  obj := fun i h st b hb => by
    obtain ⟨⟨old, he⟩, ⟨o, ho, hc, hd⟩, _⟩ := st
    have e' : b = e ∨ b = it := by simpa using hb
    rcases e' with z | z
    · rw [z]; exact ⟨_, he, fun v q => nomatch q⟩
    · rw [z]; exact ⟨o, ho, fun v q => by rw [hd] at q; cases q⟩
  keep := fun i h h' st k => let ⟨⟨old, he⟩, ⟨o, ho, r⟩, hne⟩ := st; ⟨⟨old, k e (by simp) _ he⟩, ⟨o, k it (by simp) o ho, r⟩, hne⟩
  item := by
    intro X hP hw hK hc i pins s σ H E I hf st hg
    subst hP hw hK
    obtain ⟨⟨old, he⟩, hit, hne, hai, hae⟩ := st
    obtain ⟨xs, x, hq, hx⟩ := hg
    obtain ⟨its, rv, p, hz⟩ := I.tuple hq
    obtain ⟨u, hu, ru⟩ := rv.get hx
    have hel : e < s.heap.objs.size := Heap.lt_size he
    have hil : it < s.heap.objs.size := by obtain ⟨_, q, _⟩ := hit; exact Heap.lt_size q
    have hlt : i < its.toArray.size := by
      have hu' : its[i]? = some u := hu
      rw [List.size_toArray]
      exact (List.getElem?_eq_some_iff.mp hu').1
    have D := Draws.tuple (prog := X.prog) (w := X.w) (A := X.A.in1) (I.ok.hd hc) it a hai its.toArray
    refine PySem.wpAny_pyNext_enum_itemC D he ⟨hit, p⟩ hlt hne (by intro m; rcases List.mem_cons.mp m with z | z; exact hne z; exact hae (List.mem_singleton.mp z).symm) fun u' h' tk hu' ho hst hT hsz hk => ?_
    have eu : u' = u := by
      have h1 : its[i]? = some u' := by simpa using hu'
      rw [hu] at h1
      exact (Option.some.inj h1).symm
    subst eu
    refine ⟨_, rfl, wpAny_letOwnedTupleGo_enum (s := { s with heap := h', toks := tk + 1 }) ho fun h'' he' sb => ?_⟩
    have hT2 : h''.get? s.heap.objs.size = some { cls := .type "tuple", data := .seq #[.int i tk, u'] } := (sb.2 _ (Nat.ne_of_gt hel)).trans hT
    have new : ObjOk X.prog X.w (upd H s.heap.objs.size (.tup [.int (i : Nat), x])) h'' s.heap.objs.size (.tup [.int (i : Nat), x]) :=
      ⟨by show 2 ≤ sizeLine; decide, [.int i tk, u'], .cons ⟨_, rfl⟩ (.cons ru .nil), ⟨_, hT2, rfl, _, rfl⟩⟩
    have I1 : Inv X pins σ (upd H s.heap.objs.size (.tup [.int (i : Nat), x])) { s with heap := h'', toks := tk + 1 } :=
      I.turnedNew (ch := [e, it]) (fun b ob hb q => (sb.2 b (fun z => hb (by simp [z]))).trans (hk b ob (fun z => hb (by simp [z])) (fun z => hb (by simp [z])) q)) hf (Nat.le_refl _) new
    refine ⟨.ref s.heap.objs.size, _, I1, rfl, ⟨_, x, rfl, I.hok.fresh (Nat.le_refl _), rfl, fun ys hy => ?_⟩, ⟨⟨u', ?_⟩, ?_, hne, hai, hae⟩, fun b hb => ?_⟩
    · obtain ⟨its2, rv2, p2, _⟩ := I.tuple hy
      have : ys = xs := I.tuple_inj hy hq
      rw [this]
      exact hx
    · have e1 : ((i + 1 : Nat) : Int) = (i : Int) + 1 := by omega
      rw [e1]; exact he'
    · obtain ⟨⟨o, ho', r⟩, _⟩ := hst
      exact ⟨o, (sb.2 it (Ne.symm hne)).trans ho', r⟩
    · have hb' : b < s.heap.objs.size := by
        have e' : b = e ∨ b = it := by simpa using hb
        rcases e' with z | z
        · rw [z]; exact hel
        · rw [z]; exact hil
      rw [upd_ne (Nat.ne_of_lt hb')]
      exact (hf b hb).1
  done := by
    intro X hP hw hK hc i pins s σ H E I hf st hg
    subst hP hw hK
    obtain ⟨⟨old, he⟩, hit, hne, hai, hae⟩ := st
    obtain ⟨xs, hq, hx⟩ := hg
    obtain ⟨its, rv, p, hz⟩ := I.tuple hq
    obtain ⟨f0, f1, f2, f3, f4, f5⟩ := hf it (by simp)
    have hl := rv.length
    have hT : s.TypeIs (.ref e) "enumerate" := ⟨_, he, rfl⟩
    unfold pyNext
    refine wpAny_bind (wpAny_attempt (wpAny_callSpecial?_slot (name := Str.ofString "__next__") hT F.slot_enumerate_next
      (wpAny_call_entry F.slot_enumerate_next hT F.entry_enumerate_next ?_ (F.args_enumerate_next_1 _))))
    show wpAny _ _ (field (.ref e) 2 >>= _) _ _ _
    refine wpAny_bind (wpAny_field he rfl (x := .ref it) rfl ?_)
    refine wpAny_bind (wpAny_nextOf_tuple_end (I.ok.hd hc) hit p (by simp; omega) fun h' x he' hx' => ?_)
    obtain ⟨o, ho, hc'⟩ := hx'
    refine wpAny_bind (wpAny_isInstance (T := "StopIteration") (b := true) ⟨o, ho, hc'⟩ isSubtype_stop ?_)
    exact wpAny_pure ⟨rfl, I.turned (t' := s.toks) (fun b o hb q => he' b o hb q) f0 f1 f3 f4 f5⟩
  self := fun A i s Q E st h => let ⟨⟨_, he⟩, _⟩ := st; wpAny_pyIter_enum he h
def iEnumA (K : PySem.W.Frag) (ta : TA) : TI := fun σ H R => ta σ H fun vs H1 => ∃ a xs, vs = [.ref a] ∧ ((SqL K H1 a xs ∧ R (Ite K a) H1) ∨ (SqT K H1 a xs ∧ R (IteT K a) H1))
theorem pi_enumA {X : Cx} {e : Expr} {ta : TA} {p pos tpos : Pos} {elts : List Expr} {kk : Nat} (hg : Gl X "enumerate") (hm : X.mg "enumerate" = none) (ha : PA X [e] ta) (hs : starEach [e] X.env = [(false, eval e X.env)] := by rfl) :
    PI X (.Tuple elts kk tpos) (.Call (.Name "enumerate" p) [e] [] pos) (iEnumA X.K ta) := by
  refine ⟨fun pins s σ H R I h => ?_⟩
  refine Call_ (ld_blt I hg hm boot_enumerate (PyProof.Rows.callWith_type1 (thn (ha.run pos pins s σ H _ I h) fun us s1 ⟨vs, H1, I1, r1, q1⟩ => ?_) hs rfl))
  obtain ⟨a, xs, ex, q⟩ := q1
  subst ex
  cases r1 with
  | cons r rr =>
    cases rr
    cases r
    have fpo : ∀ b ∈ [s1.heap.objs.size + 1, s1.heap.objs.size], s1.heap.objs.size ≤ b := fun b hb => by
      have e' : b = s1.heap.objs.size + 1 ∨ b = s1.heap.objs.size := by simpa using hb
      rcases e' with z | z
      · rw [z]; exact Nat.le_add_right _ _
      · rw [z]; exact Nat.le_refl _
    rcases q with ⟨hq, q⟩ | ⟨hq, q⟩
    · obtain ⟨its, rv, p', hz⟩ := I1.list hq
      refine call_enumerate_list p'.isList fun h' he hit hsz hk => wpAny_pyIter_enum he ?_
      have I2 : Inv X pins σ H1 { s1 with heap := h' } := I1.kept (t' := s1.toks) hk
      refine ⟨s1.heap.objs.size + 1, [s1.heap.objs.size + 1, s1.heap.objs.size], _, _, H1, rfl, I2, turn_enum a (s1.heap.objs.size + 1) s1.heap.objs.size, ⟨⟨.none, he⟩, hit, Nat.succ_ne_self _⟩, fun b hb => I1.fpOk (fpo b hb) (I1.hok.fresh (fpo b hb)), q⟩
    · obtain ⟨its, rv, p', hz⟩ := I1.tuple hq
      obtain ⟨op, hop, _⟩ := id p'
      have hal : a < s1.heap.objs.size := Heap.lt_size hop
      refine call_enumerate_tuple p' fun h' he hit hsz hk => wpAny_pyIter_enum he ?_
      have I2 : Inv X pins σ H1 { s1 with heap := h' } := I1.kept (t' := s1.toks) hk
      refine ⟨s1.heap.objs.size + 1, [s1.heap.objs.size + 1, s1.heap.objs.size], _, _, H1, rfl, I2, turn_enumT a (s1.heap.objs.size + 1) s1.heap.objs.size, ⟨⟨.none, he⟩, hit, Nat.succ_ne_self _, Nat.ne_of_lt hal, Nat.ne_of_lt (Nat.lt_succ_of_lt hal)⟩, fun b hb => I1.fpOk (fpo b hb) (I1.hok.fresh (fpo b hb)), q⟩
theorem walk_enumT {K : PySem.W.Frag} {a : Addr} {xs : List V} : Walk (IteT K a) xs.length (fun H => SqT K H a xs) (YPair (fun i => some (.int (i : Nat))) (fun i => xs[i]?)) := by
  refine ⟨fun i _ hi q => ⟨xs, xs[i], q, by simp [hi]⟩, fun _ q => ⟨xs, q, Nat.le_refl _⟩, fun i H v H' _ q y => ?_⟩
  obtain ⟨T, x, h1, h2, h3, h4⟩ := y
  exact ⟨T, .int (i : Nat), x, h1, h2, h3, rfl, h4 xs q⟩
/-! ### t += u -/
section
variable {X : Cx}
theorem noI_tuple_add : typeLookup (.type "tuple") (dunderI "add") = pure none := by rw [typeLookup_type, builtinLookup_eq_fast]; kernel_rfl
theorem icat_tup {prog : Program} {w : World} {A : Around} {E : Value → Shared → Prop} {s : Shared} {t b : Addr} {vs ws : List Value} {Q : Value → Shared → Prop} (ht : IsTup s.heap t vs.toArray) (hb : IsTup s.heap b ws.toArray)
    (h0 : vs = [] → Q (.ref b) s) (h1 : vs ≠ [] → ws = [] → Q (.ref t) s) (h2 : vs ≠ [] → ws ≠ [] → Q (.ref s.heap.objs.size) { s with heap := s.heap.push { cls := .type "tuple", data := .seq (vs ++ ws).toArray } })
    (hsz : vs.length + ws.length ≤ sizeLine) : wpAny (model prog w) A (inplaceOp .Add (.ref t) (.ref b)) Q E s := by
  have t1 : s.TypeIs (.ref t) "tuple" := ht.typeIs
  have t2 : s.TypeIs (.ref b) "tuple" := hb.typeIs
  obtain ⟨⟨cls, dd, data, sl⟩, ho, hc, n, hd⟩ := id ht
  obtain ⟨⟨cls2, dd2, data2, sl2⟩, ho2, hc2, n2, hd2⟩ := id hb
  simp only at hc hd hc2 hd2
  subst hc hd hc2 hd2
  have e : vs.toArray ++ ws.toArray = (vs ++ ws).toArray := by simp
  refine wpAny_inplaceOp_concat t1 t2 noI_tuple_add noFill_tuple_add seq_tuple_add ?_
  by_cases hv : vs = []
  · exact call_meets PySem.F.slot_tuple_add ⟨_, ho, rfl⟩ PySem.F.entry_tuple_add (PySem.F.args_tuple_add_2 _ _) (tuple_addW0 t b vs.toArray ws.toArray n n2 dd dd2 sl sl2 (by simp [hv])) ⟨ho, ho2, h0 hv⟩
  · by_cases hw : ws = []
    · exact call_meets PySem.F.slot_tuple_add ⟨_, ho, rfl⟩ PySem.F.entry_tuple_add (PySem.F.args_tuple_add_2 _ _) (tuple_addW1 t b vs.toArray ws.toArray n n2 dd dd2 sl sl2 (by simpa using hv) (by simp [hw])) ⟨ho, ho2, h1 hv hw⟩
    · refine call_meets PySem.F.slot_tuple_add ⟨_, ho, rfl⟩ PySem.F.entry_tuple_add (PySem.F.args_tuple_add_2 _ _) (tuple_addW2 t b vs.toArray ws.toArray n n2 dd dd2 sl sl2 (by simpa using hv) (by simpa using hw) (by rw [List.size_toArray, List.size_toArray]; exact hsz)) ⟨ho, ho2, ?_⟩
      rw [e]
      exact h2 hv hw
theorem iop_catA : OpR X (inplaceOp .Add) (rCatA X.K) := by
  intro pins s σ H x y v u Q I rx ry h
  obtain ⟨a, b, xs, ys, rfl, rfl, ha, hb, hz, q0, q1, q2⟩ := h
  cases rx
  cases ry
  obtain ⟨its, r1, p1, _⟩ := I.tuple ha
  obtain ⟨its2, r2, p2, _⟩ := I.tuple hb
  refine icat_tup p1 p2 (fun z => ⟨.ref b, H, I, rfl, q0 (r1.nil_iff.mp z)⟩) (fun z z2 => ⟨.ref a, H, I, rfl, q1 (fun y => z (r1.nil_iff.mpr y)) (r2.nil_iff.mp z2)⟩) (fun z z2 => ?_) (by rw [← r1.length, ← r2.length]; exact hz)
  refine ⟨.ref s.heap.objs.size, _, I.laid (t' := s.toks) (o := .tup (xs ++ ys)) (fun b ob q => Heap.get?_push_of_some _ q) (Nat.le_refl _) ?_, rfl, q2 (fun y => z (r1.nil_iff.mpr y)) (fun w => z2 (r2.nil_iff.mpr w)) _ (I.hok.fresh (Nat.le_refl _))⟩
  exact ⟨by rw [List.length_append]; exact hz, _, r1.append r2, IsTup.new _ _⟩
end
end L2
/-! xs[::0 - 1] -/
namespace L2
open PySem PySem.Spec PyProof.Rows
section
variable {X : Cx}
theorem pe_revS {e : Expr} {te : TE} {k k2 : Nat} {p1 p2 p3 p4 pos : Pos} (he : PE X e te) : PE X (.Subscript e (.Slice none none (some (.BinOp (.Constant (.int 0) k p1) .Sub (.Constant (.int 1) k2 p4) p2)) p3) pos) (tRevL X.K te) := by
  refine ⟨fun pins s σ H Q I h => ?_⟩
  refine Subscript_ (thn (he.run pins s σ H _ I h) fun v s1 ⟨x, H1, I1, r1, q1⟩ => ?_)
  obtain ⟨a, xs, ex, hx, q⟩ := q1
  subst ex
  cases r1
  have hst : PO X (some (.BinOp (.Constant (.int 0) k p1) .Sub (.Constant (.int 1) k2 p4) p2)) _ := po_some (pe_op op_sub pe_int pe_int)
  refine wpAny_Slice (thn (po_none.run pins s1 σ H1 (fun o H2 => o = none ∧ H2 = H1) I1 ⟨rfl, rfl⟩) fun vl s2 ⟨l, H2, I2, pl, el, e2⟩ => ?_)
  subst el e2
  refine thn (po_none.run pins s2 σ H2 (fun o H3 => o = none ∧ H3 = H2) I2 ⟨rfl, rfl⟩) fun vu s3 ⟨u, H3, I3, pu, eu, e3⟩ => ?_
  subst eu e3
  refine thn (hst.run pins s3 σ H3 (fun o H4 => o = some (-1) ∧ H4 = H3) I3 ⟨0, 1, rfl, rfl, -1, rfl, rfl, rfl⟩) fun vs s4 ⟨o, H4, I4, ps, eo, e4⟩ => ?_
  subst eo e4
  have I5 : Inv X pins σ H4 { s4 with heap := s4.heap.push { cls := .type "slice", data := .fields #[vl, vu, vs] } } := I4.kept (t' := s4.toks) fun b ob q => Heap.get?_push_of_some _ q
  obtain ⟨its, r, ht, hz⟩ := I5.list hx
  have hlen := r.length
  show wpAny (model X.prog X.w) X.A (subscriptTail e (.Slice none none (some (.BinOp (.Constant (.int 0) k p1) .Sub (.Constant (.int 1) k2 p4) p2)) p3) (.ref a) (.ref s4.heap.objs.size)) (EP X pins σ Q) X.xe { s4 with heap := s4.heap.push { cls := .type "slice", data := .fields #[vl, vu, vs] } }
  refine tail_any (ops := [.ref a, .ref s4.heap.objs.size]) ht.isList.typeIs (PySem.slot_list_getitem.lookup) ?_ (by with_unfolding_all rfl)
  refine wpAny_getItem_list_slice ht.isList (Heap.IsSliceOf.new _ vl vu vs) pl pu ps (by decide) ?_ (by rw [List.size_toArray]; omega)
  rw [PySem.W.krv_pick]
  refine ⟨.ref _, _, I5.laid (t' := s4.toks) (o := .lst xs.reverse) (fun b ob q => Heap.get?_push_of_some _ q) (Nat.le_refl _) ?_, rfl, q _ (I5.hok.fresh (Nat.le_refl _))⟩
  exact ⟨by rw [List.length_reverse]; exact hz, _, 0, r.reverse, Heap.get?_push_size _ rfl⟩
end
end L2
/-! A comprehension without a test: its i-th item is f i. -/
namespace L2
open PySem PySem.Spec PyProof.Rows
theorem lcA {J : It} {n : Nat} {G : Hp → Prop} {Y : Nat → Hp → V → Hp → Prop} (w : Walk J n G Y) {g : TG} {te : TE} {vs : List Nat} {σ : St} {H1 : Hp} {D : Addr} {Qd : Hp → Prop} (f : Nat → V) (nD : H1 D = none) (hz : n < sizeLine)
    (hG : ∀ H, Same H1 H → G H)
    (each : ∀ (i : Nat) (x : V) (H H' : Hp) (acc : List V) (N : Hp → Prop), i < n → Same H1 H → Y i H x H' → H D = some (.lst acc) → acc.length < sizeLine → (∀ H'', Same H H'' → N (upd H'' D (.lst (acc ++ [f i])))) → g x (wipe σ vs) H' fun σ2 H2 => wipe σ2 vs = wipe σ vs ∧ tYes σ2 H2 fun b H3 =>
      if b = true then te σ2 H3 fun y H4 => ∃ acc, H4 D = some (.lst acc) ∧ acc.length < sizeLine ∧ N (upd H4 D (.lst (acc ++ [y]))) else N H3)
    (hd : ∀ H, Same H1 H → H D = some (.lst ((List.range n).map f)) → Qd H) :
    ∃ W : Nat → Nat → Hp → Prop, (∃ m, W 0 m (upd H1 D (.lst []))) ∧ ∀ i m H, W i m H →
      (J.stop i H ∧ Qd H) ∨ (J.go i H ∧ ∃ Nx : Hp → Prop, (∀ H', Nx H' → ∃ m', m' < m ∧ W (i + 1) m' H') ∧ ∀ x H', J.yld i H x H' → g x (wipe σ vs) H' fun σ2 H2 => wipe σ2 vs = wipe σ vs ∧ tYes σ2 H2 fun b H3 =>
        if b = true then te σ2 H3 fun y H4 => ∃ acc, H4 D = some (.lst acc) ∧ acc.length < sizeLine ∧ Nx (upd H4 D (.lst (acc ++ [y]))) else Nx H3) := by
  refine lc_it w (fun i H => Same H1 H ∧ H D = some (.lst ((List.range i).map f))) ⟨Same.new nD, by rw [upd_same]; rfl⟩ (fun i H _ p => hG H p.1) ?_ (fun H p => hd H p.1 p.2)
  rintro i x H H' hi ⟨s, e⟩ y
  refine each i x H H' _ _ hi s y e (by rw [List.length_map, List.length_range]; omega) fun H'' s2 => ⟨(s.trans s2).put nD, ?_⟩
  rw [upd_same, List.range_succ, List.map_append]
  rfl
end L2
namespace K49
open PySem L2
def topS (i : Nat) : Stmt := PySem.Challenge.pw_keptwhole_k49_what_items_of_refs_mean.main.body.getD i (.Pass ⟨0, 0, 0, 0⟩)
/-! ### what stays: all that is tracked but for one place; a box -/
def Fr (b : Addr) (H H' : Hp) : Prop := ∀ c o, H c = some o → c ≠ b → H' c = some o
theorem Fr.refl (b : Addr) (H : Hp) : Fr b H H := fun _ _ h _ => h
theorem Fr.trans {b : Addr} {H H1 H2 : Hp} (x : Fr b H H1) (y : Fr b H1 H2) : Fr b H H2 := fun c o h n => y c o (x c o h n) n
theorem Fr.of {b : Addr} {H H' : Hp} (x : Same H H') : Fr b H H' := fun c o h _ => x c o h
theorem Fr.up {b : Addr} {H : Hp} {o : HO} : Fr b H (upd H b o) := fun c o h n => by rw [upd_ne n]; exact h
theorem Fr.rd {b c : Addr} {H H' : Hp} {u : HO} (x : Fr b H H') (n : c ≠ b) (r : Rd H c u) : Rd H' c u := r.imp (fun h => x c _ h n) fun ⟨o, h⟩ => ⟨o, x c _ h n⟩
theorem Fr.seqL {K : PySem.W.Frag} {b c : Addr} {H H' : Hp} {xs : List V} (x : Fr b H H') (n : c ≠ b) (r : SqL K H c xs) : SqL K H' c xs := r.imp (fun h => x.rd n h) id
theorem Fr.seqT {K : PySem.W.Frag} {b c : Addr} {H H' : Hp} {xs : List V} (x : Fr b H H') (n : c ≠ b) (r : SqT K H c xs) : SqT K H' c xs := r.imp (fun h => x.rd n h) id
def BoxAt (H : Hp) (b : Addr) : Prop := ∃ g r : Int, H b = some (.lst [.int g, .int r])
abbrev sBox : Stmt := topS 38
abbrev sTake : Stmt := topS 39
abbrev sPick : Stmt := topS 40
def spBox (K : PySem.W.Frag) : Sp := fun vs H Q _ => ∃ (a : Addr) (ns : List Int) (k : Nat), vs = [.ref a, .int k] ∧ SqL K H a (ns.map V.int) ∧ ns.length ≤ 63 ∧
  ∀ p H', Same H H' → H p = none → BoxAt H' p → Q (.ref p) H'
def spTake : Sp := fun vs H Q _ => ∃ (b : Addr) (many : Int), vs = [.ref b, .int many] ∧ BoxAt H b ∧ 0 < many ∧ many < 1073741824 ∧
  ∀ (d : Int) H', 0 ≤ d → d < many → Fr b H H' → BoxAt H' b → Q (.int d) H'
def spPick (K : PySem.W.Frag) : Sp := fun vs H Q _ => ∃ (b l : Addr) (xs : List V), vs = [.ref b, .ref l] ∧ BoxAt H b ∧ SqL K H l xs ∧ l ≠ b ∧ xs ≠ [] ∧ xs.length < 1073741824 ∧
  ∀ (v : V) H', v ∈ xs → Fr b H H' → BoxAt H' b → Q v H'
theorem atI_in {xs : List V} {i : Int} (h0 : 0 ≤ i) (h1 : i < xs.length) : ∃ v, atI xs i = some v ∧ v ∈ xs := by
  obtain ⟨n, rfl⟩ := Int.eq_ofNat_of_zero_le h0
  have hn : n < xs.length := by omega
  exact ⟨xs[n], atI_nat (List.getElem?_eq_getElem hn), List.getElem_mem hn⟩
theorem m31 : (0 : Int) < 2147483563 := by decide
theorem sz2 : 2 ≤ sizeLine := by decide
section
variable {P : Program} {w : World} {K : PySem.W.Frag} {mg : Str → Option Value} {base : Heap}
theorem scBox : FnScope ["script", "k", "cell", "great"] ["script", "k"] (defScope sBox) := ⟨rfl, rfl, rfl, by decide +kernel, rfl, by decide +kernel, by decide +kernel⟩
theorem ok_box {f : Addr} {fd : FuncData} (F : Fun K "_law_box" "_law_box" sBox f fd) (T : Blt mg) : FnOk P w K mg base CX0 1 f fd ["script", "k"] (spBox K) := by
  refine F.ok scBox (fun vs H Q E h => ?_) (fun cdv A outer s H vs Q E hr h => ?_)
  · obtain ⟨a, ns, k, rfl, _⟩ := h
    rfl
  · obtain ⟨a, ns, k, rfl, hS, hl, q⟩ := h
    have hlen : (ns.map V.int).length = ns.length := List.length_map ..
    refine ⟨_, pss_cons (ps_set (i := 2) scBox.nd rfl (.inl rfl) (pe_op op_add (pe_op op_mul pe_int (pv 1)) pe_int))
      (pss_cons (ps_if (pt_cmpR op_lt (pv 1) (pe_callB call_len_seq (by rfl) T.len PySem.boot_len (pa_cons (pv 0) pa_nil)) (nomark _))
        (pss_one (ps_set (i := 2) scBox.nd rfl (.inl rfl) (pe_callB call_abs (by rfl) T.abs (by decide +kernel) (pa_cons (pe_callTy call_int1 (by rfl) T.int (by decide +kernel) (pa_cons (pe_ix ix_list (pv 0) (pv 1) (fun _ _ => rfl)) pa_nil)) pa_nil))))
        (pss_one (ps_if (pt_cmpR op_gt (pe_callB call_len_seq (by rfl) T.len PySem.boot_len (pa_cons (pv 0) pa_nil)) pe_int (nomark _))
          (pss_one (ps_set (i := 2) scBox.nd rfl (.inl rfl) (pe_op op_add (pv 2) (pe_op op_mul (pe_op op_mod (pe_callTy call_int1 (by rfl) T.int (by decide +kernel) (pa_cons (pe_callB call_abs (by rfl) T.abs (by decide +kernel) (pa_cons (pe_callTy call_int1 (by rfl) T.int (by decide +kernel) (pa_cons (pe_ix ix_list (pv 0) (pe_op op_mod (pe_callTy call_int1 (by rfl) T.int (by decide +kernel) (pa_cons (pv 1) pa_nil)) (pe_callB call_len_seq (by rfl) T.len PySem.boot_len (pa_cons (pv 0) pa_nil))) (fun _ _ => rfl)) pa_nil)) pa_nil)) pa_nil)) pe_int) pe_int))))
          pss_nil)))
      (pss_cons (ps_set (i := 3) scBox.nd rfl (.inl rfl) (pe_ifExp (pt_cmpR op_ge (pv 2) (pe_op op_pow pe_int pe_int) (nomark _)) (pv 2) pe_int))
      (pss_one (ps_ret (pe_lst (pa_cons (pv 3) (pa_cons (pe_op op_add (pe_op op_mod (pe_callTy call_int1 (by rfl) T.int (by decide +kernel) (pa_cons (pe_op op_add (pe_op op_mul (pe_op op_mod (pe_callTy call_int1 (by rfl) T.int (by decide +kernel) (pa_cons (pv 2) pa_nil)) pe_int) pe_int) (pe_op op_mul pe_int (pv 1))) pa_nil)) pe_int) pe_int) pa_nil))))))), ?_⟩
    refine ⟨_, rfl, _, _, rfl, rfl, .inl ⟨by decide, by decide⟩, _, _, rfl, rfl, ?_⟩
    refine ⟨_, rfl, _, rfl, a, _, rfl, .inl hS, _, _, rfl, rfl, _, rfl, ite2 (fun h1 => ?_) (fun h1 => ?_)⟩
    · have h1' : k < ns.length := by have := of_decide_eq_true h1; omega
      refine ⟨_, rfl, _, rfl, a, _, _, _, rfl, rfl, hS, atI_nat (xs := ns.map V.int) (j := k) (by rw [List.getElem?_map, List.getElem?_eq_getElem h1']; rfl), .inl ⟨_, rfl, _, rfl, ?_⟩⟩
      refine ⟨_, rfl, _, _, rfl, rfl, ⟨by decide, by decide, by decide⟩, _, _, rfl, rfl, _, rfl, ite2 (fun h3 => ?_) (fun h3 => ?_)⟩
      · refine ⟨_, rfl, _, rfl, _, rfl, .inl ⟨_, rfl, _, _, rfl, rfl, m31, _, _, rfl, rfl, .inr ⟨by decide, by decide⟩, _, rfl, _, _, rfl, rfl, .inl ⟨by decide, by decide⟩, _, _, rfl, rfl, .inl ⟨_, rfl, _, _, rfl, rfl, m31, _, _, rfl, rfl, sz2, fun p np => ?_⟩⟩⟩
        exact q p _ (fun b o e => by rw [upd_ne (ne_of_none e np)]; exact e) np ⟨_, _, upd_same⟩
      · refine ⟨_, rfl, _, rfl, .inl ⟨_, rfl, _, _, rfl, rfl, m31, _, _, rfl, rfl, .inr ⟨by decide, by decide⟩, _, rfl, _, _, rfl, rfl, .inl ⟨by decide, by decide⟩, _, _, rfl, rfl, .inl ⟨_, rfl, _, _, rfl, rfl, m31, _, _, rfl, rfl, sz2, fun p np => ?_⟩⟩⟩
        exact q p _ (fun b o e => by rw [upd_ne (ne_of_none e np)]; exact e) np ⟨_, _, upd_same⟩
    · refine ⟨_, rfl, a, _, rfl, .inl hS, _, _, rfl, rfl, _, rfl, ite2 (fun h2 => ?_) (fun h2 => ?_)⟩
      · have h2' : 0 < ns.length := by have := of_decide_eq_true h2; omega
        have hm : ((k : Int) % ((ns.map V.int).length : Int)) < ((ns.map V.int).length : Int) := Int.emod_lt_of_pos _ (by omega)
        obtain ⟨v, hv, hin⟩ := atI_in (Int.emod_nonneg (k : Int) (by omega : ((ns.map V.int).length : Int) ≠ 0)) hm
        obtain ⟨z, _, rfl⟩ := List.mem_map.mp hin
        refine ⟨_, rfl, _, rfl, _, rfl, .inl ⟨_, rfl, _, rfl, a, _, rfl, .inl hS, _, _, rfl, rfl, by omega, a, _, _, _, rfl, rfl, hS, hv, .inl ⟨_, rfl, _, rfl, .inl ⟨_, rfl, _, _, rfl, rfl, m31, _, _, rfl, rfl, .inr ⟨by decide, by decide⟩, _, _, rfl, rfl, ?_⟩⟩⟩⟩
        refine ⟨_, rfl, _, _, rfl, rfl, ⟨by decide, by decide, by decide⟩, _, _, rfl, rfl, _, rfl, ite2 (fun h3 => ?_) (fun h3 => ?_)⟩
        · refine ⟨_, rfl, _, rfl, _, rfl, .inl ⟨_, rfl, _, _, rfl, rfl, m31, _, _, rfl, rfl, .inr ⟨by decide, by decide⟩, _, rfl, _, _, rfl, rfl, .inl ⟨by decide, by decide⟩, _, _, rfl, rfl, .inl ⟨_, rfl, _, _, rfl, rfl, m31, _, _, rfl, rfl, sz2, fun p np => ?_⟩⟩⟩
          exact q p _ (fun b o e => by rw [upd_ne (ne_of_none e np)]; exact e) np ⟨_, _, upd_same⟩
        · refine ⟨_, rfl, _, rfl, .inl ⟨_, rfl, _, _, rfl, rfl, m31, _, _, rfl, rfl, .inr ⟨by decide, by decide⟩, _, rfl, _, _, rfl, rfl, .inl ⟨by decide, by decide⟩, _, _, rfl, rfl, .inl ⟨_, rfl, _, _, rfl, rfl, m31, _, _, rfl, rfl, sz2, fun p np => ?_⟩⟩⟩
          exact q p _ (fun b o e => by rw [upd_ne (ne_of_none e np)]; exact e) np ⟨_, _, upd_same⟩
      · refine ⟨_, rfl, _, _, rfl, rfl, ⟨by decide, by decide, by decide⟩, _, _, rfl, rfl, _, rfl, ite2 (fun h3 => ?_) (fun h3 => ?_)⟩
        · refine ⟨_, rfl, _, rfl, _, rfl, .inl ⟨_, rfl, _, _, rfl, rfl, m31, _, _, rfl, rfl, .inr ⟨by decide, by decide⟩, _, rfl, _, _, rfl, rfl, .inl ⟨by decide, by decide⟩, _, _, rfl, rfl, .inl ⟨_, rfl, _, _, rfl, rfl, m31, _, _, rfl, rfl, sz2, fun p np => ?_⟩⟩⟩
          exact q p _ (fun b o e => by rw [upd_ne (ne_of_none e np)]; exact e) np ⟨_, _, upd_same⟩
        · refine ⟨_, rfl, _, rfl, .inl ⟨_, rfl, _, _, rfl, rfl, m31, _, _, rfl, rfl, .inr ⟨by decide, by decide⟩, _, rfl, _, _, rfl, rfl, .inl ⟨by decide, by decide⟩, _, _, rfl, rfl, .inl ⟨_, rfl, _, _, rfl, rfl, m31, _, _, rfl, rfl, sz2, fun p np => ?_⟩⟩⟩
          exact q p _ (fun b o e => by rw [upd_ne (ne_of_none e np)]; exact e) np ⟨_, _, upd_same⟩
theorem scTake : FnScope ["box", "many", "digit", "raw"] ["box", "many"] (defScope sTake) := ⟨rfl, rfl, rfl, by decide +kernel, rfl, by decide +kernel, by decide +kernel⟩
theorem ok_take {f : Addr} {fd : FuncData} (F : Fun K "_law_take" "_law_take" sTake f fd) (T : Blt mg) : FnOk P w K mg base CX0 1 f fd ["box", "many"] spTake := by
  refine F.ok scTake (fun vs H Q E h => ?_) (fun cdv A outer s H vs Q E hr h => ?_)
  · obtain ⟨b, m, rfl, _⟩ := h
    rfl
  · obtain ⟨b, m, rfl, ⟨g, r, hb⟩, h0, h1, q⟩ := h
    have m31b : (0 : Int) < 2147483647 := by decide
    have m31c : (0 : Int) < 2147483563 := by decide
    refine ⟨_, pss_cons (ps_if (pt_cmpR op_gt (pe_ix ix_list (pv 0) pe_int (fun _ _ => rfl)) pe_int (nomark _))
        (pss_cons (ps_set (i := 2) scTake.nd rfl (.inl rfl) (pe_op op_mod (pe_callTy call_int1 (by rfl) T.int (by decide +kernel) (pa_cons (pe_ix ix_list (pv 0) pe_int (fun _ _ => rfl)) pa_nil)) (pv 1)))
        (pss_cons (ps_asg (pe_op op_fdiv (pe_ix ix_list (pv 0) pe_int (fun _ _ => rfl)) (pv 1)) (pg_sub (pv 0) pe_int set_list))
        (pss_one (ps_ret (pv 2))))) pss_nil)
      (pss_cons (ps_set (i := 3) scTake.nd rfl (.inl rfl) (pe_op op_mod (pe_callTy call_int1 (by rfl) T.int (by decide +kernel) (pa_cons (pe_op op_add (pe_op op_mul (pe_ix ix_list (pv 0) pe_int (fun _ _ => rfl)) pe_int) pe_int) pa_nil)) pe_int))
      (pss_cons (ps_asg (pe_op op_add (pe_op op_mod (pe_callTy call_int1 (by rfl) T.int (by decide +kernel) (pa_cons (pe_op op_add (pe_op op_mul (pv 3) pe_int) pe_int) pa_nil)) pe_int) pe_int) (pg_sub (pv 0) pe_int set_list))
      (pss_one (ps_ret (pe_op op_mod (pe_callTy call_int1 (by rfl) T.int (by decide +kernel) (pa_cons (pe_op op_fdiv (pe_op op_add (pe_op op_mul (pv 3) pe_int) (pe_ix ix_list (pv 0) pe_int (fun _ _ => rfl))) pe_int) pa_nil)) (pv 1)))))), ?_⟩
    have S : SqL K H b [.int g, .int r] := SqL.of hb
    refine ⟨_, rfl, b, _, _, _, rfl, rfl, S, rfl, _, _, rfl, rfl, _, rfl, ite2 (fun h2 => ?_) (fun h2 => ?_)⟩
    · refine ⟨_, rfl, b, _, _, _, rfl, rfl, S, rfl, .inl ⟨_, rfl, _, rfl, _, _, rfl, rfl, h0, ?_⟩⟩
      refine ⟨_, rfl, b, _, _, _, rfl, rfl, S, rfl, _, rfl, _, _, rfl, rfl, ⟨h0, h1⟩, _, rfl, b, _, _, 0, rfl, rfl, hb, rfl, ?_⟩
      refine ⟨_, rfl, ?_⟩
      exact q _ _ (Int.emod_nonneg _ (by omega)) (Int.emod_lt_of_pos _ h0) Fr.up ⟨_, _, upd_same⟩
    · refine ⟨_, rfl, b, _, _, _, rfl, rfl, S, rfl, _, _, rfl, rfl, .inr ⟨by decide, by decide⟩, _, _, rfl, rfl, .inl ⟨_, rfl, _, _, rfl, rfl, m31b, ?_⟩⟩
      refine ⟨_, rfl, _, _, rfl, rfl, .inr ⟨by decide, by decide⟩, _, _, rfl, rfl, .inl ⟨_, rfl, _, _, rfl, rfl, m31c, _, _, rfl, rfl, _, rfl, b, _, _, 1, rfl, rfl, hb, rfl, ?_⟩⟩
      refine ⟨_, rfl, _, _, rfl, rfl, .inr ⟨by decide, by decide⟩, _, rfl, b, _, _, _, rfl, rfl, SqL.of upd_same, rfl, _, _, rfl, rfl, _, _, rfl, rfl, ⟨by decide, by decide⟩, .inl ⟨_, rfl, _, rfl, _, _, rfl, rfl, h0, ?_⟩⟩
      exact q _ _ (Int.emod_nonneg _ (by omega)) (Int.emod_lt_of_pos _ h0) Fr.up ⟨_, _, upd_same⟩
theorem scPick : FnScope ["box", "some"] ["box", "some"] (defScope sPick) := ⟨rfl, rfl, rfl, by decide +kernel, rfl, by decide +kernel, by decide +kernel⟩
theorem ok_pick {f fT : Addr} {fd fdT : FuncData} (F : Fun K "_law_pick" "_law_pick" sPick f fd) (T : Blt mg) (mT : mg "_law_take" = some (.ref fT)) (kT : PySem.W.keepIn K (.ref fT) = true) (FT : Fun K "_law_take" "_law_take" sTake fT fdT) (bT : Binds K fdT ["box", "many"] []) :
    FnOk P w K mg base CX0 2 f fd ["box", "some"] (spPick K) := by
  refine F.ok scPick (fun vs H Q E h => ?_) (fun cdv A outer s H vs Q E hr h => ?_)
  · obtain ⟨b, l, xs, rfl, _⟩ := h
    rfl
  · obtain ⟨b, l, xs, rfl, hb, hS, hn, h0, h1, q⟩ := h
    refine ⟨_, pss_one (ps_ret (pe_ix ix_list (pv 1) (pe_call (ok_take FT T) hr (by rfl) mT kT bT .nil pass0 (pa_cons (pv 0) (pa_cons (pe_callB call_len_seq (by rfl) T.len PySem.boot_len (pa_cons (pv 1) pa_nil)) pa_nil))) (fun _ _ => rfl))), ?_⟩
    have hp : 0 < xs.length := by cases xs with | nil => exact absurd rfl h0 | cons _ _ => exact Nat.succ_pos _
    refine ⟨_, rfl, _, rfl, _, rfl, l, _, rfl, .inl hS, b, _, rfl, hb, by omega, by omega, fun d H' d0 d1 fr hb' => ?_⟩
    obtain ⟨v, hv, hin⟩ := atI_in d0 d1
    exact ⟨l, _, _, _, rfl, rfl, fr.seqL hn hS, hv, q v H' hin fr hb'⟩
end
end K49
namespace K49
open PySem L2
/-! ### defs and what they promise, in bundles -/
structure Def (K : PySem.W.Frag) (mg : Str → Option Value) (name : Str) (st : Stmt) (ps : List Str) : Prop where
  ex : ∃ f fd, Fun K name name st f fd ∧ mg name = some (.ref f) ∧ PySem.W.keepIn K (.ref f) = true ∧ Binds K fd ps []
structure Ok (P : Program) (w : World) (K : PySem.W.Frag) (mg : Str → Option Value) (base : Heap) (CX : CXT) (k : Nat) (name : Str) (ps : List Str) (sp : Sp) : Prop where
  ex : ∃ f fd, FnOk P w K mg base CX k f fd ps sp ∧ mg name = some (.ref f) ∧ PySem.W.keepIn K (.ref f) = true ∧ Binds K fd ps []
theorem Def.ok {P : Program} {w : World} {K : PySem.W.Frag} {mg : Str → Option Value} {base : Heap} {CX : CXT} {k : Nat} {name : Str} {st : Stmt} {ps : List Str} {sp : Sp} (D : Def K mg name st ps) (h : ∀ {f : Addr} {fd : FuncData}, Fun K name name st f fd → FnOk P w K mg base CX k f fd ps sp) : Ok P w K mg base CX k name ps sp := by
  obtain ⟨f, fd, F, m, kp, b⟩ := D.ex
  exact ⟨f, fd, h F, m, kp, b⟩
section
variable {X : Cx} {k : Nat} {name : Str} {ps : List Str} {sp : Sp} {e : Expr} {es : List Expr} {t : TA} {p pos : Pos}
theorem c_fn {k' : Nat} (O : Ok X.prog X.w X.K X.mg X.base CX0 k name ps sp) (hr : Room k' X.A) (ha : PA X (e :: es) t) (hk : k ≤ k' := by decide) (hg : Gl X name := by rfl) (hdb : (name == ("__debug__" : Str)) = false := by decide)
    (he : starEach (e :: es) X.env = (false, eval e X.env) :: starEach es X.env := by rfl) (hpl : (backTo pos (starEach es X.env)).any (·.1) = false := by rfl) : PE X (.Call (.Name name p) (e :: es) [] pos) (tCall sp [] E0 t) := by
  obtain ⟨f, fd, F, m, kp, b⟩ := O.ex
  exact pe_call F (hr.mono hk) hg m kp b .nil pass0 ha hdb he hpl
end
structure Cst (mg : Str → Option Value) : Prop where
  octet : ∃ u, mg "MOST_OCTET" = some u ∧ RelV (.int 256) u
  names : ∃ u, mg "NAMES" = some u ∧ RelV (.int 2305843009213693951) u
  mref : ∃ u, mg "MOST_REF" = some u ∧ RelV (.int 20) u
  kept : ∃ u, mg "KEPT" = some u ∧ RelV (.int 8) u
  refk : ∃ u, mg "REF_KEY" = some u ∧ RelV (.int 82) u
  logk : ∃ u, mg "LOG_KEY" = some u ∧ RelV (.int 76) u
  hand : ∃ u, mg "HAND" = some u ∧ RelV (.int 64) u
  hands : ∃ u, mg "HANDS" = some u ∧ RelV (.int 100) u
  width : ∃ u, mg "WIDTH" = some u ∧ RelV (.int 8) u
  part : ∃ u, mg "PART" = some u ∧ RelV (.int 9) u
  entry : ∃ u, mg "ENTRY" = some u ∧ RelV (.int 26) u
theorem c_c {X : Cx} {x : Str} {v : V} {p : Pos} (h : ∃ u, X.mg x = some u ∧ RelV v u) (hg : Gl X x := by rfl) (hd : (x == ("__debug__" : Str)) = false := by decide) : PE X (.Name x p) (tC v) := by
  obtain ⟨u, m, r⟩ := h
  exact pe_glob hg m r hd
/-! ### words -/
abbrev sInt : Stmt := topS 7
abbrev sNum : Stmt := topS 8
abbrev sBel : Stmt := topS 9
abbrev sIsq : Stmt := topS 10
abbrev sOct : Stmt := topS 11
abbrev sNeed : Stmt := topS 12
def spInt : Sp := fun vs H Q _ => ∃ n : Int, vs = [.int n] ∧ Q (.bl true) H
def spNum : Sp := fun vs H Q _ => ∃ n : Int, vs = [.int n] ∧ Q (.bl (decide (0 ≤ n))) H
def spBel : Sp := fun vs H Q _ => ∃ n m : Int, vs = [.int n, .int m] ∧ Q (.bl (decide (0 ≤ n ∧ n < m))) H
/-- a list or a tuple that is tracked -/
def LT (H : Hp) (a : Addr) (xs : List V) : Prop := H a = some (.lst xs) ∨ H a = some (.tup xs)
theorem LT.keep {H H' : Hp} {a : Addr} {xs : List V} (h : LT H a xs) (s : Same H H') : LT H' a xs := h.imp (s _ _) (s _ _)
theorem LT.sq {K : PySem.W.Frag} {H : Hp} {a : Addr} {xs : List V} (h : LT H a xs) : SqL K H a xs ∨ SqT K H a xs := h.imp SqL.of SqT.of
def spIsq : Sp := fun vs H Q _ => ∃ (a : Addr) (xs : List V), vs = [.ref a] ∧ LT H a xs ∧ ∀ H', Same H H' → Q (.bl true) H'
abbrev Octs (ns : List Int) : Prop := ∀ n ∈ ns, 0 ≤ n ∧ n < 256
def spOct : Sp := fun vs H Q _ => ∃ (a : Addr) (ns : List Int), vs = [.ref a] ∧ H a = some (.tup (ns.map V.int)) ∧ ns.length ≤ 4000 ∧ ∀ H', Same H H' → Q (.bl (decide (Octs ns))) H'
def spNeed : Sp := fun vs H Q _ => ∃ (a : Addr) (ns : List Int), vs = [.ref a] ∧ H a = some (.tup (ns.map V.int)) ∧ ns.length ≤ 4000 ∧ Octs ns ∧ ∀ H', Same H H' → Q (.ref a) H'
theorem big {n : Nat} (h : n ≤ 4000) : n < sizeLine := Nat.lt_of_le_of_lt h (by decide)
section
variable {P : Program} {w : World} {K : PySem.W.Frag} {mg : Str → Option Value} {base : Heap}
theorem kitAny_l {K : PySem.W.Frag} : PySem.W.kitAny K (.type "list") [.type "list", .type "tuple"] = some true := by
  have h1 : PySem.W.kitOne K (.type "list") (.type "list") = some true := kit_ty (by decide +kernel)
  unfold PySem.W.kitAny
  rw [h1]
theorem kitAny_t {K : PySem.W.Frag} : PySem.W.kitAny K (.type "tuple") [.type "list", .type "tuple"] = some true := by
  have h1 : PySem.W.kitOne K (.type "tuple") (.type "list") = some false := kit_ty (by decide +kernel)
  have h2 : PySem.W.kitOne K (.type "tuple") (.type "tuple") = some true := kit_ty (by decide +kernel)
  unfold PySem.W.kitAny
  rw [h1]
  unfold PySem.W.kitAny
  rw [h2]
theorem scInt : FnScope ["value"] ["value"] (defScope sInt) := ⟨rfl, rfl, rfl, by decide +kernel, rfl, by decide +kernel, by decide +kernel⟩
theorem ok_int (D : Def K mg "is_integer" sInt ["value"]) (B : Blt mg) (hb : mg "bool" = none) : Ok P w K mg base CX0 1 "is_integer" ["value"] spInt := by
  refine D.ok fun F => F.ok scInt (fun vs H Q E h => ?_) (fun cdv A outer s H vs Q E hr h => ?_)
  · obtain ⟨n, rfl, _⟩ := h
    rfl
  · obtain ⟨n, rfl, q⟩ := h
    refine ⟨_, pss_one (ps_ret (pe_and (pe_callB call_isi (by rfl) B.isinstance (by decide +kernel) (pa_cons (pv 0) (pa_cons (pe_bltn (v := .ty "int") (by rfl) B.int (by decide +kernel) rfl) pa_nil)))
      (pe_one (pe_not (pe_callB call_isi (by rfl) B.isinstance (by decide +kernel) (pa_cons (pv 0) (pa_cons (pe_bltn (v := .ty "bool") (by rfl) hb (by decide +kernel) rfl) pa_nil))))))), ?_⟩
    refine ⟨_, rfl, _, _, .type "int", _, true, rfl, .ty "int", .base (.int n), kit_ty (by decide +kernel), _, rfl, ?_⟩
    refine ⟨_, rfl, _, _, .type "int", _, false, rfl, .ty "bool", .base (.int n), kit_ty (by decide +kernel), _, rfl, q⟩
theorem scNum : FnScope ["value"] ["value"] (defScope sNum) := ⟨rfl, rfl, rfl, by decide +kernel, rfl, by decide +kernel, by decide +kernel⟩
theorem ok_num (D : Def K mg "is_number" sNum ["value"]) (O1 : Ok P w K mg base CX0 1 "is_integer" ["value"] spInt) : Ok P w K mg base CX0 2 "is_number" ["value"] spNum := by
  refine D.ok fun F => F.ok scNum (fun vs H Q E h => ?_) (fun cdv A outer s H vs Q E hr h => ?_)
  · obtain ⟨n, rfl, _⟩ := h
    rfl
  · obtain ⟨n, rfl, q⟩ := h
    refine ⟨_, pss_one (ps_ret (pe_and (c_fn O1 hr (pa_cons (pv 0) pa_nil)) (pe_one (pe_cmpR op_ge (pv 0) pe_int (nomark _))))), ?_⟩
    exact ⟨_, rfl, n, rfl, _, rfl, _, rfl, _, _, rfl, rfl, q⟩
theorem scBel : FnScope ["value", "most"] ["value", "most"] (defScope sBel) := ⟨rfl, rfl, rfl, by decide +kernel, rfl, by decide +kernel, by decide +kernel⟩
theorem ok_bel (D : Def K mg "is_below" sBel ["value", "most"]) (O1 : Ok P w K mg base CX0 2 "is_number" ["value"] spNum) : Ok P w K mg base CX0 3 "is_below" ["value", "most"] spBel := by
  refine D.ok fun F => F.ok scBel (fun vs H Q E h => ?_) (fun cdv A outer s H vs Q E hr h => ?_)
  · obtain ⟨n, m, rfl, _⟩ := h
    rfl
  · obtain ⟨n, m, rfl, q⟩ := h
    refine ⟨_, pss_one (ps_ret (pe_and (c_fn O1 hr (pa_cons (pv 0) pa_nil)) (pe_one (pe_cmpR op_lt (pv 0) (pv 1) (nomark _))))), ?_⟩
    refine ⟨_, rfl, n, rfl, _, rfl, ?_⟩
    by_cases h0 : 0 ≤ n
    · rw [decide_eq_true h0]
      refine ⟨_, rfl, _, rfl, _, _, rfl, rfl, ?_⟩
      show Q (.bl (decide (n < m))) H
      by_cases h1 : n < m
      · rw [decide_eq_true h1]; rwa [decide_eq_true ⟨h0, h1⟩] at q
      · rw [decide_eq_false h1]; rwa [decide_eq_false (fun z => h1 z.2)] at q
    · rw [decide_eq_false h0]
      rwa [decide_eq_false (fun z => h0 z.1)] at q
theorem scIsq : FnScope ["value"] ["value"] (defScope sIsq) := ⟨rfl, rfl, rfl, by decide +kernel, rfl, by decide +kernel, by decide +kernel⟩
theorem ok_isq (D : Def K mg "is_sequence" sIsq ["value"]) (B : Blt mg) : Ok P w K mg base CX0 1 "is_sequence" ["value"] spIsq := by
  refine D.ok fun F => F.ok scIsq (fun vs H Q E h => ?_) (fun cdv A outer s H vs Q E hr h => ?_)
  · obtain ⟨a, ns, rfl, _⟩ := h
    rfl
  · obtain ⟨a, ns, rfl, hS, k⟩ := h
    refine ⟨_, pss_one (ps_ret (pe_callB call_isiT (by rfl) B.isinstance (by decide +kernel) (pa_cons (pv 0) (pa_cons (pe_tup (pa_cons (pe_bltn (v := .ty "list") (by rfl) B.list (by decide +kernel) rfl) (pa_cons (pe_bltn (v := .ty "tuple") (by rfl) B.tuple (by decide +kernel) rfl) pa_nil))) pa_nil)))), ?_⟩
    refine ⟨_, rfl, by decide, fun t nt => ?_⟩
    rcases hS with h | h
    · exact ⟨_, t, _, .type "list", _, true, rfl, upd_same, .cons (.ty "list") (.cons (.ty "tuple") .nil), .base (.lst (Same.at nt h)), kitAny_l, k _ (Same.new nt)⟩
    · exact ⟨_, t, _, .type "tuple", _, true, rfl, upd_same, .cons (.ty "list") (.cons (.ty "tuple") .nil), .base (.tup (Same.at nt h)), kitAny_t, k _ (Same.new nt)⟩
end
end K49
namespace K49
open PySem L2
abbrev sNO : Stmt := topS 14
abbrev sON : Stmt := topS 15
/-! ### numbers by their octets -/
/-- the least octet first -/
def digs : Nat → Int → List Int
  | 0, _ => []
  | k + 1, n => n % 256 :: digs k (n / 256)
def be (k : Nat) (n : Int) : List Int := (digs k n).reverse
def num (ns : List Int) : Int := ns.foldl (fun a o => a * 256 + o) 0
theorem digs_length : ∀ (k : Nat) (n : Int), (digs k n).length = k
  | 0, _ => rfl
  | k + 1, n => by rw [digs, List.length_cons, digs_length k]
theorem be_length (k : Nat) (n : Int) : (be k n).length = k := by rw [be, List.length_reverse, digs_length]
theorem digs_snoc : ∀ (k : Nat) (n : Int), digs (k + 1) n = digs k n ++ [n / 256 ^ k % 256]
  | 0, n => by
    rw [digs, digs, digs]
    simp
  | k + 1, n => by
    rw [digs, digs_snoc k (n / 256), digs, List.cons_append, Int.ediv_ediv_of_nonneg (by decide)]
    congr 4
    rw [Int.pow_succ, Int.mul_comm]
theorem div_pow_succ (n : Int) (k : Nat) : n / 256 ^ k / 256 = n / 256 ^ (k + 1) := by
  rw [Int.ediv_ediv_of_nonneg (Int.le_of_lt (Int.pow_pos (by decide))), Int.pow_succ]
theorem be_succ (k : Nat) (n : Int) : be (k + 1) n = (n / 256 ^ k % 256) :: be k n := by
  rw [be, digs_snoc, List.reverse_append]
  rfl
theorem digs_octs : ∀ (k : Nat) (n : Int), Octs (digs k n)
  | 0, _ => fun x hx => by cases hx
  | k + 1, n => fun x hx => by
    rw [digs] at hx
    rcases List.mem_cons.mp hx with rfl | hx
    · exact ⟨Int.emod_nonneg _ (by decide), Int.emod_lt_of_pos _ (by decide)⟩
    · exact digs_octs k _ x hx
theorem be_octs (k : Nat) (n : Int) : Octs (be k n) := fun x hx => digs_octs k n x (List.mem_reverse.mp hx)
theorem num_snoc (ns : List Int) (o : Int) : num (ns ++ [o]) = num ns * 256 + o := by
  unfold num
  rw [List.foldl_append]
  rfl
theorem num_be_mod : ∀ (k : Nat) (n : Int), num (be k n) = n % 256 ^ k
  | 0, n => by
    rw [be, digs]
    show (0 : Int) = n % 256 ^ 0
    simp
  | k + 1, n => by
    have e : be (k + 1) n = be k (n / 256) ++ [n % 256] := by
      rw [be, digs, List.reverse_cons]
      rfl
    rw [e, num_snoc, num_be_mod k]
    have h1 : n % 256 ^ (k + 1) = n % 256 + 256 * (n / 256 % 256 ^ k) := by
      have hp : (0 : Int) < 256 ^ k := Int.pow_pos (by decide)
      have r0 := Int.emod_nonneg (n / 256) (Int.ne_of_gt hp)
      have r1 := Int.emod_lt_of_pos (n / 256) hp
      have q := Int.emod_add_mul_ediv (n / 256) (256 ^ k)
      have e2 : n = (n % 256 + 256 * (n / 256 % 256 ^ k)) + 256 ^ (k + 1) * (n / 256 / 256 ^ k) := by
        rw [Int.pow_succ, Int.mul_comm (256 ^ k) 256, Int.mul_assoc]
        omega
      have e3 : n % 256 ^ (k + 1) = ((n % 256 + 256 * (n / 256 % 256 ^ k)) + 256 ^ (k + 1) * (n / 256 / 256 ^ k)) % 256 ^ (k + 1) := by rw [← e2]
      rw [e3, Int.add_mul_emod_self_left]
      refine Int.emod_eq_of_lt (by omega) ?_
      rw [Int.pow_succ]
      omega
    omega
theorem num_be {k : Nat} {n : Int} (h0 : 0 ≤ n) (h1 : n < 256 ^ k) : num (be k n) = n := by rw [num_be_mod, Int.emod_eq_of_lt h0 h1]
theorem num_nonneg : ∀ (ns : List Int), Octs ns → 0 ≤ num ns := fun ns h => by
  suffices ∀ (ns : List Int) (a : Int), 0 ≤ a → Octs ns → 0 ≤ ns.foldl (fun a o => a * 256 + o) a from this ns 0 (by decide) h
  intro ns
  induction ns with
  | nil => exact fun a h _ => h
  | cons x ns ih => exact fun a h0 h => ih _ (by have := h x List.mem_cons_self; show 0 ≤ a * 256 + x; omega) fun y hy => h y (List.mem_cons_of_mem _ hy)
theorem snoc_of {ns : List Int} {k : Nat} (h : ns.length = k + 1) : ∃ ms o, ns = ms ++ [o] ∧ ms.length = k := by
  refine ⟨ns.dropLast, ns.getLast (by intro z; rw [z] at h; cases h), (List.dropLast_concat_getLast _).symm, by rw [List.length_dropLast]; omega⟩
theorem num_lt : ∀ (k : Nat) (ns : List Int), ns.length = k → Octs ns → num ns < 256 ^ k
  | 0, ns, h, _ => by
    rw [List.length_eq_zero_iff.mp h]
    decide
  | k + 1, ns, h, o => by
    obtain ⟨ms, x, rfl, hm⟩ := snoc_of h
    rw [num_snoc]
    have h1 := num_lt k ms hm fun y hy => o y (by simp [hy])
    have h2 := o x (by simp)
    rw [Int.pow_succ]
    omega
theorem be_num : ∀ (k : Nat) (ns : List Int), ns.length = k → Octs ns → be k (num ns) = ns
  | 0, ns, h, _ => by
    rw [List.length_eq_zero_iff.mp h]
    rfl
  | k + 1, ns, h, o => by
    obtain ⟨ms, x, rfl, hm⟩ := snoc_of h
    have h1 := be_num k ms hm fun y hy => o y (by simp [hy])
    have h2 := o x (by simp)
    rw [num_snoc, be, digs, List.reverse_cons]
    have e1 : (num ms * 256 + x) % 256 = x := by omega
    have e2 : (num ms * 256 + x) / 256 = num ms := by omega
    rw [e1, e2]
    exact congrArg (· ++ [x]) h1
theorem be_inj {k : Nat} {n m : Int} (hn : 0 ≤ n ∧ n < 256 ^ k) (hm : 0 ≤ m ∧ m < 256 ^ k) (h : be k n = be k m) : n = m := by
  have := congrArg num h
  rwa [num_be hn.1 hn.2, num_be hm.1 hm.2] at this
end K49
namespace K49
open PySem L2
def spNO : Sp := fun vs H Q _ => ∃ (n : Int) (k : Nat), vs = [.int n, .int k] ∧ 0 ≤ n ∧ k ≤ 60 ∧ n < 256 ^ k ∧ ∀ (p : Addr) H', Same H H' → H p = none → H' p = some (.tup ((be k n).map V.int)) → Q (.ref p) H'
def spON : Sp := fun vs H Q _ => ∃ (a : Addr) (ns : List Int), vs = [.ref a] ∧ H a = some (.tup (ns.map V.int)) ∧ ns.length ≤ 60 ∧ Octs ns ∧ ∀ H', Same H H' → Q (.int (num ns)) H'
section
variable {P : Program} {w : World} {K : PySem.W.Frag} {mg : Str → Option Value} {base : Heap}
theorem scOct : FnScope ["value", "octet"] ["value"] (defScope sOct) := ⟨rfl, rfl, rfl, by decide +kernel, rfl, by decide +kernel, by decide +kernel⟩
theorem all_id (ns : List Int) (f : Int → Bool) : (ns.map f).all id = ns.all f := by rw [List.all_map]; rfl
theorem ok_oct (D : Def K mg "is_octets" sOct ["value"]) (B : Blt mg) (C : Cst mg) (O1 : Ok P w K mg base CX0 1 "is_sequence" ["value"] spIsq) (O3 : Ok P w K mg base CX0 3 "is_below" ["value", "most"] spBel) : Ok P w K mg base CX0 4 "is_octets" ["value"] spOct := by
  refine D.ok fun F => F.ok scOct (fun vs H Q E h => ?_) (fun cdv A outer s H vs Q E hr h => ?_)
  · obtain ⟨a, ns, rfl, _⟩ := h
    rfl
  · obtain ⟨a, ns, rfl, ha, hl, k⟩ := h
    refine ⟨_, pss_one (ps_ret (pe_and (c_fn O1 hr (pa_cons (pv 0) pa_nil)) (pe_one (c_all rfl B (pe_lc (own := [("octet", 1)]) (g := gName 1) (by rfl) scOct.nd (pi_tup (pv 0)) (blkOk_by (own := [("octet", 1)]) (N := ["value", "octet"]) (sc := defScope sOct) (by decide +kernel)) (fun _ _ _ _ _ => pg_name (i := 1) scOct.nd rfl (Or.inl rfl))
      (fun _ _ _ _ _ => pts_nil) (fun _ _ _ _ _ => c_fn O3 hr (pa_cons (pv 1) (pa_cons (c_c C.octet) pa_nil)))))))), ?_⟩
    refine ⟨_, rfl, a, _, rfl, .inr ha, fun H1 s1 => ⟨_, rfl, _, rfl, a, rfl, ⟨_, SqT.of (s1 _ _ ha)⟩, fun L nL => ?_⟩⟩
    refine lcF (walkI_tup (K := K) (a := a) (ns := ns)) (fun _ => true) (fun n => .bl (decide (0 ≤ n ∧ n < 256))) nL (big hl) (fun H' s => SqT.of (s _ _ (s1 _ _ ha))) ?_ ?_
    · intro n H' acc N hn s hD hacc kt kf
      exact ⟨rfl, _, rfl, n, 256, rfl, acc, hD, hacc, kt rfl _ (Same.refl _)⟩
    · intro H2 s2 hD
      refine ⟨L, ns.map (fun n => decide (0 ≤ n ∧ n < 256)), rfl, SqL.of (by rw [List.map_map]; rw [List.filter_eq_self.mpr (fun _ _ => rfl)] at hD; exact hD), ?_⟩
      have e : (ns.map (fun n => decide (0 ≤ n ∧ n < 256))).all id = decide (Octs ns) := by
        rw [all_id, Bool.eq_iff_iff, List.all_eq_true, decide_eq_true_eq]
        exact ⟨fun h n hn => of_decide_eq_true (h n hn), fun h n hn => decide_eq_true (h n hn)⟩
      rw [e]
      exact k _ (s1.trans s2)
theorem scNeed : FnScope ["value", "at", "octet"] ["value"] (defScope sNeed) := ⟨rfl, rfl, rfl, by decide +kernel, rfl, by decide +kernel, by decide +kernel⟩
theorem ok_need (D : Def K mg "need_octets" sNeed ["value"]) (B : Blt mg) (hen : mg "enumerate" = none) (C : Cst mg) (O1 : Ok P w K mg base CX0 1 "is_sequence" ["value"] spIsq) (O3 : Ok P w K mg base CX0 3 "is_below" ["value", "most"] spBel) : Ok P w K mg base CX0 4 "need_octets" ["value"] spNeed := by
  refine D.ok fun F => F.ok scNeed (fun vs H Q E h => ?_) (fun cdv A outer s H vs Q E hr h => ?_)
  · obtain ⟨a, ns, rfl, _⟩ := h
    rfl
  · obtain ⟨a, ns, rfl, ha, hl, ho, k⟩ := h
    refine ⟨_, pss_cons (ps_if (pt_not (pt_val (c_fn O1 hr (pa_cons (pv 0) pa_nil)))) (pss_one ps_never) pss_nil)
      (pss_cons (ps_for PassesOwn.never rfl (pi_enumA (by rfl) hen (pa_cons (pv 0) pa_nil)) (pg_tup (by rfl) (pgs_cons (pg_name (i := 1) scNeed.nd rfl (Or.inl rfl)) (pgs_cons (pg_name (i := 2) scNeed.nd rfl (Or.inl rfl)) pgs_nil)))
        (pss_one (ps_if (pt_not (pt_val (c_fn O3 hr (pa_cons (pv 2) (pa_cons (c_c C.octet) pa_nil))))) (pss_one ps_never) pss_nil)))
      (pss_one (ps_ret (c_tuple B (pv 0))))), ?_⟩
    refine ⟨_, rfl, a, _, rfl, .inr ha, fun H1 s1 => ⟨_, rfl, iteF ?_⟩⟩
    have ha1 := s1 _ _ ha
    refine ⟨_, rfl, a, ns.map V.int, rfl, .inr ⟨SqT.of ha1, ?_⟩⟩
    refine for_it (walk_enumT (K := K) (a := a) (xs := ns.map V.int)) (fun i σ H' => Same H1 H' ∧ ∃ x1 x2, σ = [some (.ref a), x1, x2]) ⟨Same.refl _, _, _, rfl⟩ (fun i σ H' _ p => SqT.of (p.1 _ _ ha1)) ?_ ?_
    · rintro i x σ H' H2 hi ⟨s2, x1, x2, rfl⟩ ⟨T, v1, v2, rfl, hT, rfl, e1, e2⟩
      cases e1
      replace e2 : (ns.map V.int)[i]? = some v2 := e2
      rw [List.getElem?_map] at e2
      cases hn : ns[i]? with
      | none => rw [hn] at e2; cases e2
      | some n =>
        rw [hn] at e2
        cases e2
        have hon := ho n (List.mem_of_getElem? hn)
        refine ⟨T, _, rfl, SqT.of upd_same, rfl, _, _, rfl, _, _, rfl, rfl, ?_⟩
        refine ⟨_, rfl, n, 256, rfl, _, rfl, ?_⟩
        rw [decide_eq_true hon]
        exact iteF ⟨s2.up hT, _, _, rfl⟩
    · rintro σ H' ⟨s2, x1, x2, rfl⟩
      exact ⟨_, rfl, a, _, rfl, .inr ⟨SqT.of (s2 _ _ ha1), k _ (s1.trans s2)⟩⟩
theorem scNO : FnScope ["number", "many", "found", "left", "_"] ["number", "many"] (defScope sNO) := ⟨rfl, rfl, rfl, by decide +kernel, rfl, by decide +kernel, by decide +kernel⟩
theorem ok_no (D : Def K mg "number_octets" sNO ["number", "many"]) (B : Blt mg) (C : Cst mg) (O2 : Ok P w K mg base CX0 2 "is_number" ["value"] spNum) : Ok P w K mg base CX0 3 "number_octets" ["number", "many"] spNO := by
  refine D.ok fun F => F.ok scNO (fun vs H Q E h => ?_) (fun cdv A outer s H vs Q E hr h => ?_)
  · obtain ⟨n, k, rfl, _⟩ := h
    rfl
  · obtain ⟨n, k, rfl, h0, hk, h1, q⟩ := h
    refine ⟨_, pss_cons (ps_if (pt_not (pt_val (c_fn O2 hr (pa_cons (pv 0) pa_nil)))) (pss_one ps_never) pss_nil)
      (pss_cons (ps_if (pt_not (pt_val (c_fn O2 hr (pa_cons (pv 1) pa_nil)))) (pss_one ps_never) pss_nil)
      (pss_cons (ps_set (i := 2) scNO.nd rfl (.inl rfl) (pe_lst pa_nil))
      (pss_cons (ps_set (i := 3) scNO.nd rfl (.inl rfl) (pv 0))
      (pss_cons (ps_for PassesOwn.never rfl (i_range B (pv 1)) (pg_name (i := 4) scNO.nd rfl (Or.inl rfl))
        (pss_cons (ps_expr (c_append (pv 2) (pe_op op_mod (pv 3) (c_c C.octet))))
        (pss_one (ps_aug (i := 3) scNO.nd rfl (.inl rfl) (c_c C.octet) iop_fdiv))))
      (pss_cons (ps_if (pt_cmpR op_gt (pv 3) pe_int (nomark _)) (pss_one ps_never) pss_nil)
      (pss_one (ps_ret (c_tuple B (pe_revL (pv 2)))))))))), ?_⟩
    refine ⟨_, rfl, n, rfl, _, rfl, ?_⟩
    rw [decide_eq_true h0]
    refine iteF ⟨_, rfl, (k : Int), rfl, _, rfl, ?_⟩
    rw [decide_eq_true (Int.natCast_nonneg k)]
    refine iteF ⟨by decide, fun l nl => ?_⟩
    refine ⟨_, rfl, ?_⟩
    refine ⟨_, rfl, (k : Int), rfl, by omega, by omega, ?_⟩
    refine for_range (lo := 0) (n := (k : Int).toNat) (fun i σ H' => Same H H' ∧ H' l = some (.lst ((digs i n).map V.int)) ∧ ∃ x4, σ = [some (.int n), some (.int k), some (.ref l), some (.int (n / 256 ^ i)), x4]) ⟨Same.new nl, upd_same, none, by rw [Int.pow_zero, Int.ediv_one]; rfl⟩ ?_ ?_
    · rintro i σ H' hi ⟨s1, hL, x4, rfl⟩
      refine ⟨_, rfl, .inl ⟨rfl, _, SqL.of hL⟩, _, rfl, _, _, rfl, rfl, (by decide : (0 : Int) < 256), l, _, _, rfl, rfl, hL, big (by rw [List.length_map, digs_length]; omega), ?_⟩
      refine ⟨_, rfl, _, _, rfl, rfl, ⟨by decide, by decide⟩, s1.put nl, ?_, some (.int (0 + (i : Nat))), ?_⟩
      · rw [upd_same, digs_snoc, List.map_append]
        rfl
      · show [_, _, _, some (V.int (n / 256 ^ i / 256)), _] = _
        rw [div_pow_succ]
    · rintro σ H' ⟨s1, hL, x4, rfl⟩
      have e0 : n / 256 ^ ((k : Int).toNat) = 0 := by
        rw [Int.toNat_natCast]
        exact Int.ediv_eq_zero_of_lt h0 h1
      rw [e0]
      refine ⟨_, rfl, _, _, rfl, rfl, _, rfl, iteF ?_⟩
      refine ⟨_, rfl, l, _, rfl, SqL.of hL, fun p np => ⟨p, _, rfl, .inl ⟨SqL.of upd_same, fun t nt => ?_⟩⟩⟩
      have e1 : ((digs (k : Int).toNat n).map V.int).reverse = (be k n).map V.int := by rw [Int.toNat_natCast, be, List.map_reverse]
      rw [e1] at nt ⊢
      exact q t _ ((s1.up np).up nt) (s1.free ((Same.new np (o := .lst ((be k n).map V.int))).free nt)) upd_same
theorem scON : FnScope ["octets", "found", "octet"] ["octets"] (defScope sON) := ⟨rfl, rfl, rfl, by decide +kernel, rfl, by decide +kernel, by decide +kernel⟩
theorem num_le (ns : List Int) (h : ns.length ≤ 60) (o : Octs ns) : num ns < 256 ^ 60 := Int.lt_of_lt_of_le (num_lt _ ns rfl o) (by
  have := Nat.pow_le_pow_right (show 0 < 256 by decide) h
  exact_mod_cast this)
theorem ok_on (D : Def K mg "octets_number" sON ["octets"]) (C : Cst mg) (O4 : Ok P w K mg base CX0 4 "need_octets" ["value"] spNeed) : Ok P w K mg base CX0 5 "octets_number" ["octets"] spON := by
  refine D.ok fun F => F.ok scON (fun vs H Q E h => ?_) (fun cdv A outer s H vs Q E hr h => ?_)
  · obtain ⟨a, ns, rfl, _⟩ := h
    rfl
  · obtain ⟨a, ns, rfl, ha, hl, ho, k⟩ := h
    refine ⟨_, pss_cons (ps_set (i := 1) scON.nd rfl (.inl rfl) pe_int)
      (pss_cons (ps_for PassesOwn.never rfl (pi_tup (c_fn O4 hr (pa_cons (pv 0) pa_nil))) (pg_name (i := 2) scON.nd rfl (Or.inl rfl))
        (pss_one (ps_set (i := 1) scON.nd rfl (.inl rfl) (pe_op op_add (pe_op op_mulW (pv 1) (c_c C.octet)) (pv 2)))))
      (pss_one (ps_ret (pv 1)))), ?_⟩
    refine ⟨_, rfl, a, ns, rfl, ha, by omega, ho, fun H1 s1 => ⟨a, rfl, ⟨_, SqT.of (s1 _ _ ha)⟩, ?_⟩⟩
    refine for_tup (K := K) (xs := ns.map V.int) (fun i σ H' => Same H1 H' ∧ ∃ x2, σ = [some (.ref a), some (.int (num (ns.take i))), x2]) ⟨Same.refl _, _, rfl⟩ (fun i σ H' _ p => SqT.of (p.1 _ _ (s1 _ _ ha))) ?_ ?_
    · rintro i x σ H' hx ⟨s2, x2, rfl⟩
      rw [List.getElem?_map] at hx
      cases hn : ns[i]? with
      | none => rw [hn] at hx; cases hx
      | some n =>
        rw [hn] at hx
        cases hx
        have hi : i < ns.length := (List.getElem?_eq_some_iff.mp hn).1
        have h0 := num_nonneg (ns.take i) fun x hx => ho x (List.mem_of_mem_take hx)
        have h1 := num_le (ns.take i) (by rw [List.length_take]; omega) fun x hx => ho x (List.mem_of_mem_take hx)
        refine ⟨_, rfl, _, _, rfl, rfl, wide_mul (a := 500) (b := 10) ?_ (by decide) (by decide) (by decide) (by decide), _, rfl, _, _, rfl, rfl, s2, some (.int n), ?_⟩
        · have : (256 : Int) ^ 60 < 2 ^ 500 := by decide +kernel
          have e : (((num (ns.take i)).natAbs : Nat) : Int) < ((2 ^ 500 : Nat) : Int) := by
            rw [Int.natAbs_of_nonneg h0]
            push_cast
            omega
          exact_mod_cast e
        · have e : ns.take (i + 1) = ns.take i ++ [n] := by rw [List.take_succ, hn]; rfl
          rw [e, num_snoc]
          rfl
    · rintro σ H' ⟨s2, x2, rfl⟩
      rw [List.length_map, List.take_length]
      exact ⟨_, rfl, k _ (s1.trans s2)⟩
end
end K49
namespace K49
open PySem L2
/-! ### slices -/
theorem cut_lo (xs : List V) (k : Nat) : cutV xs (some (k : Int)) none = xs.drop k := by
  unfold cutV
  rw [HT.sIx_nat, HT.sIx_none, List.take_of_length_le (by rw [List.length_drop]; exact Nat.le_refl _)]
  by_cases h : k ≤ xs.length
  · rw [Nat.min_eq_left h]
  · rw [Nat.min_eq_right (by omega), List.drop_of_length_le (by omega), List.drop_of_length_le (by omega)]
theorem cut_hi (xs : List V) (k : Nat) : cutV xs none (some (k : Int)) = xs.take k := by
  unfold cutV
  rw [HT.sIx_nat, HT.sIx_none, List.drop_zero, Nat.sub_zero]
  by_cases h : k ≤ xs.length
  · rw [Nat.min_eq_left h]
  · rw [Nat.min_eq_right (by omega), List.take_of_length_le (by omega), List.take_of_length_le (by omega)]
theorem cut_lh (xs : List V) (a b : Nat) : cutV xs (some (a : Int)) (some (b : Int)) = (xs.drop a).take (b - a) := by
  unfold cutV
  rw [HT.sIx_nat, HT.sIx_nat]
  by_cases h : a ≤ xs.length
  · rw [Nat.min_eq_left h]
    by_cases h2 : b ≤ xs.length
    · rw [Nat.min_eq_left h2]
    · rw [Nat.min_eq_right (by omega), List.take_of_length_le (by rw [List.length_drop]; omega), List.take_of_length_le (by rw [List.length_drop]; omega)]
  · rw [Nat.min_eq_right (by omega : xs.length ≤ a), List.drop_of_length_le (by omega), List.drop_of_length_le (by omega), List.take_nil, List.take_nil]
theorem cut_neg (xs : List V) (k : Nat) (hk : 0 < k) : cutV xs (some (-(k : Int))) none = xs.drop (xs.length - k) := by
  unfold cutV
  have e : HT.sIx xs.length 0 (some (-(k : Int))) = xs.length - k := by
    show (if -(k : Int) < 0 then (-(k : Int) + (xs.length : Int)).toNat else min (-(k : Int)).toNat xs.length) = _
    rw [if_pos (by omega)]
    omega
  rw [e, HT.sIx_none, List.take_of_length_le (by rw [List.length_drop]; exact Nat.le_refl _)]
theorem slA_of {K : PySem.W.Frag} {H : Hp} {a : Addr} {xs : List V} {lo hi : Option Int} {Q : VK} (h : H a = some (.tup xs)) (k : ∀ (q : Addr) H', Same H H' → H' q = some (.tup (cutV xs lo hi)) → Q (.ref q) H') : rSlA K (.ref a) lo hi H Q := by
  refine ⟨a, xs, rfl, SqT.of h, fun w => k a H (Same.refl _) ?_, fun _ p np => k p _ (Same.new np) upd_same⟩
  rw [h]
  unfold cutV
  rw [w.1, w.2, List.drop_zero, Nat.sub_zero, List.take_length]
theorem ix_of {K : PySem.W.Frag} {H : Hp} {a : Addr} {xs : List V} {j : Nat} {v : V} (h : H a = some (.tup xs)) (hj : xs[j]? = some v) : SqT K H a xs ∧ atI xs ((j : Nat) : Int) = some v := ⟨SqT.of h, atI_nat hj⟩
/-! ### places -/
abbrev NAMES : Int := 2305843009213693951
def plV : Option Int → V
  | none => .non
  | some i => .int i
def plOk : Option Int → Bool
  | none => true
  | some i => decide (0 ≤ i ∧ i < NAMES)
def plOct : Option Int → List Int
  | none => List.replicate 9 0
  | some i => 1 :: be 8 i
def octPl : List Int → Option Int
  | [] => none
  | o :: ns => if o = 0 then none else some (num ns)
theorem plOct_length (p : Option Int) : (plOct p).length = 9 := by
  cases p with
  | none => rfl
  | some i => rw [plOct, List.length_cons, be_length]
theorem plOct_octs (p : Option Int) : Octs (plOct p) := fun x hx => by
  cases p with
  | none => rw [List.eq_of_mem_replicate hx]; decide
  | some i =>
    rcases List.mem_cons.mp hx with rfl | hx
    · decide
    · exact be_octs _ _ x hx
def ownOk (ns : List Int) (p : Int) : Bool := decide (ns.length = 10 ∧ ns[0]? = some 64 ∧ (∃ x, ns[1]? = some x ∧ x < 100) → NAMES ≤ num (ns.drop 2) ∨ num (ns.drop 2) = p)
abbrev sRef : Stmt := topS 27
abbrev sPl : Stmt := topS 28
abbrev sOwn : Stmt := topS 29
abbrev sPO : Stmt := topS 30
abbrev sOP : Stmt := topS 31
abbrev RefOk (ns : List Int) : Prop := Octs ns ∧ 0 < ns.length ∧ ns.length ≤ 20
def spRef : Sp := fun vs H Q _ => ∃ (a : Addr) (ns : List Int), vs = [.ref a] ∧ H a = some (.tup (ns.map V.int)) ∧ ns.length ≤ 4000 ∧ ∀ H', Same H H' → Q (.bl (decide (RefOk ns))) H'
def spPl : Sp := fun vs H Q _ => ∃ (p : Option Int), vs = [plV p] ∧ Q (.bl (plOk p)) H
def spOwn : Sp := fun vs H Q _ => ∃ (a : Addr) (ns : List Int) (p : Int), vs = [.ref a, .int p] ∧ H a = some (.tup (ns.map V.int)) ∧ ns.length ≤ 60 ∧ Octs ns ∧ ∀ H', Same H H' → Q (.bl (ownOk ns p)) H'
def spPO : Sp := fun vs H Q _ => ∃ (p : Option Int), vs = [plV p] ∧ (∀ i, p = some i → 0 ≤ i ∧ i < 256 ^ 8) ∧ ∀ (q : Addr) H', Same H H' → H' q = some (.tup ((plOct p).map V.int)) → Q (.ref q) H'
def spOP : Sp := fun vs H Q _ => ∃ (a : Addr) (ns : List Int), vs = [.ref a] ∧ H a = some (.tup (ns.map V.int)) ∧ 0 < ns.length ∧ ns.length ≤ 60 ∧ Octs ns ∧ ∀ H', Same H H' → Q (plV (octPl ns)) H'
section
variable {P : Program} {w : World} {K : PySem.W.Frag} {mg : Str → Option Value} {base : Heap}
theorem scRef : FnScope ["value"] ["value"] (defScope sRef) := ⟨rfl, rfl, rfl, by decide +kernel, rfl, by decide +kernel, by decide +kernel⟩
theorem ok_ref (D : Def K mg "is_ref" sRef ["value"]) (B : Blt mg) (C : Cst mg) (O4 : Ok P w K mg base CX0 4 "is_octets" ["value"] spOct) : Ok P w K mg base CX0 5 "is_ref" ["value"] spRef := by
  refine D.ok fun F => F.ok scRef (fun vs H Q E h => ?_) (fun cdv A outer s H vs Q E hr h => ?_)
  · obtain ⟨a, ns, rfl, _⟩ := h
    rfl
  · obtain ⟨a, ns, rfl, ha, hl, k⟩ := h
    refine ⟨_, pss_one (ps_ret (pe_and (c_fn O4 hr (pa_cons (pv 0) pa_nil)) (pe_one (pe_chain op_lt op_le pe_int (c_len B (pv 0)) (c_c C.mref))))), ?_⟩
    refine ⟨_, rfl, a, ns, rfl, ha, hl, fun H1 s1 => ⟨_, rfl, ?_⟩⟩
    have k' := k H1 s1
    by_cases h0 : Octs ns
    · rw [decide_eq_true h0]
      refine ⟨_, rfl, a, _, rfl, .inr (SqT.of (s1 _ _ ha)), _, _, rfl, rfl, _, rfl, ite2 (fun h1 => ?_) (fun h1 => ?_)⟩
      · have h1 := of_decide_eq_true h1
        refine ⟨_, _, rfl, rfl, ?_⟩
        rw [List.length_map] at h1 ⊢
        show Q (.bl (decide ((ns.length : Int) ≤ 20))) H1
        by_cases h2 : ns.length ≤ 20
        · rw [decide_eq_true (by omega : (ns.length : Int) ≤ 20)]
          rwa [decide_eq_true ⟨h0, by omega, h2⟩] at k'
        · rw [decide_eq_false (by omega : ¬ (ns.length : Int) ≤ 20)]
          rwa [decide_eq_false (fun z => h2 z.2.2)] at k'
      · have h1 := fun z => h1 (decide_eq_true z)
        rw [List.length_map] at h1
        rwa [decide_eq_false (fun z => h1 (by omega))] at k'
    · rw [decide_eq_false h0]
      rwa [decide_eq_false (fun z => h0 z.1)] at k'
theorem scPl : FnScope ["value"] ["value"] (defScope sPl) := ⟨rfl, rfl, rfl, by decide +kernel, rfl, by decide +kernel, by decide +kernel⟩
theorem ok_pl (D : Def K mg "is_place" sPl ["value"]) (C : Cst mg) (O3 : Ok P w K mg base CX0 3 "is_below" ["value", "most"] spBel) : Ok P w K mg base CX0 4 "is_place" ["value"] spPl := by
  refine D.ok fun F => F.ok scPl (fun vs H Q E h => ?_) (fun cdv A outer s H vs Q E hr h => ?_)
  · obtain ⟨p, rfl, _⟩ := h
    rfl
  · obtain ⟨p, rfl, q⟩ := h
    refine ⟨_, pss_one (ps_ret (pe_or (pe_cmpR op_isN (pv 0) pe_non (nomark _)) (pe_one (c_fn O3 hr (pa_cons (pv 0) (pa_cons (c_c C.names) pa_nil)))))), ?_⟩
    cases p with
    | none => exact ⟨_, rfl, rfl, _, rfl, q⟩
    | some i => exact ⟨_, rfl, rfl, _, rfl, _, rfl, i, NAMES, rfl, q⟩
theorem scOwn : FnScope ["ref", "place", "told"] ["ref", "place"] (defScope sOwn) := ⟨rfl, rfl, rfl, by decide +kernel, rfl, by decide +kernel, by decide +kernel⟩
theorem ok_own (D : Def K mg "is_own_place" sOwn ["ref", "place"]) (B : Blt mg) (C : Cst mg) (O5 : Ok P w K mg base CX0 5 "octets_number" ["octets"] spON) : Ok P w K mg base CX0 6 "is_own_place" ["ref", "place"] spOwn := by
  refine D.ok fun F => F.ok scOwn (fun vs H Q E h => ?_) (fun cdv A outer s H vs Q E hr h => ?_)
  · obtain ⟨a, ns, p, rfl, _⟩ := h
    rfl
  · obtain ⟨a, ns, p, rfl, ha, hl, ho, k⟩ := h
    refine ⟨_, pss_cons (ps_if (PW.pt (pw_or (pt_cmpR op_isN (pv 1) pe_non (nomark _)) (pw_or (pt_cmpR op_ne (c_len B (pv 0)) (pe_op op_add pe_int (c_c C.width)) (nomark _))
        (pw_or (pt_cmpR op_ne (pe_ix ix_tup (pv 0) pe_int (fun _ _ => rfl)) (c_c C.hand) (nomark _)) (pw_or1 (pt_cmpR op_ge (pe_ix ix_tup (pv 0) pe_int (fun _ _ => rfl)) (c_c C.hands) (nomark _))))))) (pss_one (ps_ret pe_bl)) pss_nil)
      (pss_cons (ps_set (i := 2) scOwn.nd rfl (.inl rfl) (c_fn O5 hr (pa_cons (pe_slice sl_tupA (pv 0) (po_some pe_int) po_none) pa_nil)))
      (pss_one (ps_ret (pe_or (pe_cmpR op_ge (pv 2) (c_c C.names) (nomark _)) (pe_one (pe_cmpR op_eq (pv 2) (pv 1) (nomark _))))))), ?_⟩
    have yes : (¬ (ns.length = 10 ∧ ns[0]? = some 64 ∧ (∃ x, ns[1]? = some x ∧ x < 100))) → Q (.bl true) H := fun h => by
      have := k H (Same.refl _)
      rwa [ownOk, decide_eq_true (fun z => absurd z h)] at this
    refine ⟨_, rfl, rfl, _, rfl, iteF ?_⟩
    refine ⟨_, rfl, a, _, rfl, .inr (SqT.of ha), _, _, rfl, rfl, rfl, _, rfl, ?_⟩
    by_cases h1 : ns.length = 10
    · have e1 : (V.int ((ns.map V.int).length : Nat) = V.int (2 + 8)) := by rw [List.length_map, h1]; rfl
      rw [decide_eq_true e1]
      refine iteF ?_
      obtain ⟨x0, x1, r, rfl⟩ : ∃ x0 x1 r, ns = x0 :: x1 :: r := by
        match ns, h1 with
        | x0 :: x1 :: r, _ => exact ⟨x0, x1, r, rfl⟩
      refine ⟨_, rfl, a, _, _, .int x0, rfl, rfl, SqT.of ha, atI_nat (j := 0) rfl, rfl, _, rfl, ?_⟩
      by_cases h2 : x0 = 64
      · subst h2
        rw [decide_eq_true rfl]
        refine iteF ⟨_, rfl, a, _, _, .int x1, rfl, rfl, SqT.of ha, atI_nat (j := 1) rfl, _, _, rfl, rfl, _, rfl, ite2 (fun h3 => ?_) (fun h3 => ?_)⟩
        · have h3 := of_decide_eq_true h3
          refine yes fun z => ?_
          obtain ⟨_, _, x, hx, hl⟩ := z
          cases hx
          omega
        · have h3 : ¬ (100 : Int) ≤ x1 := fun z => h3 (decide_eq_true z)
          refine ⟨_, rfl, _, rfl, ?_⟩
          dsimp only [tNoPart]
          refine slA_of ha fun q H1 s1 hq => ?_
          rw [show (some (2 : Int)) = some ((2 : Nat) : Int) from rfl, cut_lo, ← List.map_drop] at hq
          refine ⟨q, _, rfl, hq, by rw [List.length_drop]; omega, fun y hy => ho y (List.mem_of_mem_drop hy), fun H2 s2 => ⟨_, rfl, _, _, rfl, rfl, _, rfl, ?_⟩⟩
          have k' := k H2 (s1.trans s2)
          have cond : ((64 : Int) :: x1 :: r).length = 10 ∧ ((64 : Int) :: x1 :: r)[0]? = some 64 ∧ (∃ x, ((64 : Int) :: x1 :: r)[1]? = some x ∧ x < 100) := ⟨h1, rfl, x1, rfl, by omega⟩
          show if decide (NAMES ≤ num _) = true then _ else _
          by_cases h4 : NAMES ≤ num (List.drop 2 (64 :: x1 :: r))
          · rw [decide_eq_true h4]
            rw [ownOk, decide_eq_true (fun _ => .inl h4)] at k'
            exact iteT k'
          · rw [decide_eq_false h4]
            refine iteF ⟨_, rfl, _, rfl, rfl, ?_⟩
            show Q (.bl (decide (V.int (num _) = V.int p))) H2
            by_cases h5 : num (List.drop 2 (64 :: x1 :: r)) = p
            · rw [h5, decide_eq_true rfl]
              rwa [ownOk, decide_eq_true (fun _ => .inr h5)] at k'
            · rw [decide_eq_false (fun z => h5 (by injection z))]
              rwa [ownOk, decide_eq_false (fun z => (z cond).elim h4 h5)] at k'
      · rw [decide_eq_false (fun z => h2 (by injection z))]
        exact iteT (yes fun z => h2 (by have := z.2.1; injection this))
    · rw [decide_eq_false (fun z => h1 (by rw [List.length_map] at z; injection z with z; omega))]
      exact iteT (yes fun z => h1 z.1)
theorem scPO : FnScope ["place"] ["place"] (defScope sPO) := ⟨rfl, rfl, rfl, by decide +kernel, rfl, by decide +kernel, by decide +kernel⟩
theorem ok_po (D : Def K mg "place_octets" sPO ["place"]) (C : Cst mg) (O3 : Ok P w K mg base CX0 3 "number_octets" ["number", "many"] spNO) : Ok P w K mg base CX0 4 "place_octets" ["place"] spPO := by
  refine D.ok fun F => F.ok scPO (fun vs H Q E h => ?_) (fun cdv A outer s H vs Q E hr h => ?_)
  · obtain ⟨p, rfl, _⟩ := h
    rfl
  · obtain ⟨p, rfl, hp, k⟩ := h
    refine ⟨_, pss_one (ps_ret (pe_ifExp (pt_cmpR op_isN (pv 0) pe_non (nomark _)) (pe_op op_repT (pe_tup (pa_cons pe_int pa_nil)) (c_c C.part)) (pe_op op_catT (pe_tup (pa_cons pe_int pa_nil)) (c_fn O3 hr (pa_cons (pv 0) (pa_cons (c_c C.width) pa_nil)))))), ?_⟩
    cases p with
    | none =>
      refine ⟨_, rfl, rfl, _, rfl, iteT ⟨by decide, fun t nt => ?_⟩⟩
      refine ⟨t, 9, _, rfl, rfl, SqT.of upd_same, (by intro z; cases z), by decide, by decide, by decide, fun q nq => ?_⟩
      exact k q _ ((Same.new nt).up nq) upd_same
    | some i =>
      refine ⟨_, rfl, rfl, _, rfl, iteF ⟨by decide, fun t nt => ?_⟩⟩
      obtain ⟨h0, h1⟩ := hp i rfl
      refine ⟨_, rfl, i, 8, rfl, h0, by decide, h1, fun q H1 s1 hq hq1 => ?_⟩
      refine ⟨t, q, _, _, rfl, rfl, SqT.of (s1 _ _ upd_same), SqT.of hq1, (by intro z; cases z), ?_, (fun z => ?_), fun _ r nr => ?_⟩
      · rw [List.length_map, be_length]; decide
      · have := congrArg List.length z
        rw [List.length_map, be_length] at this
        cases this
      · exact k r _ (((Same.new nt).trans s1).up nr) upd_same
theorem scOP : FnScope ["octets"] ["octets"] (defScope sOP) := ⟨rfl, rfl, rfl, by decide +kernel, rfl, by decide +kernel, by decide +kernel⟩
theorem ok_op (D : Def K mg "octets_place" sOP ["octets"]) (O5 : Ok P w K mg base CX0 5 "octets_number" ["octets"] spON) : Ok P w K mg base CX0 6 "octets_place" ["octets"] spOP := by
  refine D.ok fun F => F.ok scOP (fun vs H Q E h => ?_) (fun cdv A outer s H vs Q E hr h => ?_)
  · obtain ⟨a, ns, rfl, _⟩ := h
    rfl
  · obtain ⟨a, ns, rfl, ha, h0, hl, ho, k⟩ := h
    refine ⟨_, pss_one (ps_ret (pe_ifExp (pt_cmpR op_eq (pe_ix ix_tup (pv 0) pe_int (fun _ _ => rfl)) pe_int (nomark _)) pe_non (c_fn O5 hr (pa_cons (pe_slice sl_tupA (pv 0) (po_some pe_int) po_none) pa_nil)))), ?_⟩
    cases ns with
    | nil => exact absurd h0 (by decide)
    | cons o r =>
      refine ⟨_, rfl, a, _, _, .int o, rfl, rfl, SqT.of ha, atI_nat (j := 0) rfl, rfl, _, rfl, ?_⟩
      by_cases h1 : o = 0
      · subst h1
        have := k H (Same.refl _)
        rw [decide_eq_true rfl]
        exact iteT this
      · rw [decide_eq_false (fun z => h1 (by injection z))]
        refine iteF ⟨_, rfl, _, rfl, ?_⟩
        dsimp only [tNoPart]
        refine slA_of ha fun q H1 s1 hq => ?_
        rw [show (some (1 : Int)) = some ((1 : Nat) : Int) from rfl, cut_lo, ← List.map_drop] at hq
        refine ⟨q, _, rfl, hq, by rw [List.length_drop]; omega, fun y hy => ho y (List.mem_of_mem_drop hy), fun H2 s2 => ?_⟩
        have k' := k H2 (s1.trans s2)
        rw [octPl, if_neg h1] at k'
        exact k'
end
end K49
namespace K49
open PySem L2
/-! ### logs -/
abbrev Ent := Int × Option Int × Option Int
abbrev entV (e : Ent) : List V := [.int e.1, plV e.2.1, plV e.2.2]
abbrev refs {α : Type} (zs : List (Addr × α)) : List V := zs.map fun z => V.ref z.1
/-- the entries es at the addresses of zs -/
structure Ents (H : Hp) (zs : List (Addr × Ent)) (es : List Ent) : Prop where
  eq : zs.map (·.2) = es
  at' : ∀ z ∈ zs, H z.1 = some (.tup (entV z.2))
theorem Ents.keep {H H' : Hp} {zs : List (Addr × Ent)} {es : List Ent} (h : Ents H zs es) (s : Same H H') : Ents H' zs es := ⟨h.eq, fun z hz => s _ _ (h.at' z hz)⟩
theorem Ents.len {H : Hp} {zs : List (Addr × Ent)} {es : List Ent} (h : Ents H zs es) : zs.length = es.length := by rw [← h.eq, List.length_map]
theorem Ents.nil {H : Hp} : Ents H [] [] := ⟨rfl, fun z hz => by cases hz⟩
theorem Ents.get {H : Hp} {zs : List (Addr × Ent)} {es : List Ent} (h : Ents H zs es) {i : Nat} {e : Ent} (hi : es[i]? = some e) : ∃ a, zs[i]? = some (a, e) ∧ (refs zs)[i]? = some (.ref a) ∧ H a = some (.tup (entV e)) := by
  rw [← h.eq, List.getElem?_map] at hi
  cases hz : zs[i]? with
  | none => rw [hz] at hi; cases hi
  | some z =>
    rw [hz] at hi
    cases hi
    exact ⟨z.1, rfl, by rw [List.getElem?_map, hz]; rfl, h.at' z (List.mem_of_getElem? hz)⟩
theorem Ents.of {H : Hp} {zs : List (Addr × Ent)} {es : List Ent} (h : Ents H zs es) {i : Nat} {v : V} (hv : (refs zs)[i]? = some v) : ∃ a e, v = .ref a ∧ es[i]? = some e ∧ H a = some (.tup (entV e)) ∧ zs[i]? = some (a, e) := by
  rw [List.getElem?_map] at hv
  cases hz : zs[i]? with
  | none => rw [hz] at hv; cases hv
  | some z =>
    rw [hz] at hv
    cases hv
    exact ⟨z.1, z.2, rfl, by rw [← h.eq, List.getElem?_map, hz]; rfl, h.at' z (List.mem_of_getElem? hz), rfl⟩
theorem Ents.snoc {H : Hp} {zs : List (Addr × Ent)} {es : List Ent} (h : Ents H zs es) {a : Addr} {e : Ent} (ha : H a = some (.tup (entV e))) : Ents H (zs ++ [(a, e)]) (es ++ [e]) :=
  ⟨by rw [List.map_append, h.eq]; rfl, fun z hz => by
    rcases List.mem_append.mp hz with hz | hz
    · exact h.at' z hz
    · rw [List.mem_singleton.mp hz]; exact ha⟩
def entOct (e : Ent) : List Int := be 8 e.1 ++ plOct e.2.1 ++ plOct e.2.2
def logOct (es : List Ent) : List Int := es.flatMap entOct
theorem entOct_length (e : Ent) : (entOct e).length = 26 := by rw [entOct, List.length_append, List.length_append, be_length, plOct_length, plOct_length]
theorem entOct_octs (e : Ent) : Octs (entOct e) := fun x hx => by
  unfold entOct at hx
  rcases List.mem_append.mp hx with hx | hx
  · rcases List.mem_append.mp hx with hx | hx
    · exact be_octs _ _ x hx
    · exact plOct_octs _ x hx
  · exact plOct_octs _ x hx
theorem logOct_length (es : List Ent) : (logOct es).length = 26 * es.length := by
  induction es with
  | nil => rfl
  | cons e es ih =>
    show (entOct e ++ logOct es).length = _
    rw [List.length_append, entOct_length, ih, List.length_cons]
    omega
theorem logOct_octs (es : List Ent) : Octs (logOct es) := fun x hx => by
  obtain ⟨e, _, he⟩ := List.mem_flatMap.mp hx
  exact entOct_octs e x he
theorem logOct_snoc (es : List Ent) (e : Ent) : logOct (es ++ [e]) = logOct es ++ entOct e := by
  unfold logOct
  rw [List.flatMap_append]
  simp
abbrev B8 (i : Int) : Prop := 0 ≤ i ∧ i < 256 ^ 8
abbrev EntOk (e : Ent) : Prop := B8 e.1 ∧ (∀ i, e.2.1 = some i → B8 i) ∧ ∀ i, e.2.2 = some i → B8 i
def entOf (ns : List Int) : Ent := (num (ns.take 8), octPl ((ns.drop 8).take 9), octPl (ns.drop 17))
def logOf (k : Nat) (ns : List Int) : List Ent := (List.range k).map fun i => entOf ((ns.drop (26 * i)).take 26)
theorem logOf_succ (k : Nat) (ns : List Int) : logOf (k + 1) ns = logOf k ns ++ [entOf ((ns.drop (26 * k)).take 26)] := by
  unfold logOf
  rw [List.range_succ, List.map_append]
  rfl
theorem logOf_length (k : Nat) (ns : List Int) : (logOf k ns).length = k := by unfold logOf; rw [List.length_map, List.length_range]
theorem octPl_b8 {ns : List Int} (h : ns.length = 9) (o : Octs ns) : ∀ i, octPl ns = some i → B8 i := by
  intro i hi
  cases ns with
  | nil => cases h
  | cons x r =>
    rw [octPl] at hi
    by_cases hx : x = 0
    · rw [if_pos hx] at hi; cases hi
    · rw [if_neg hx] at hi
      cases hi
      have hr : r.length = 8 := by simpa using h
      exact ⟨num_nonneg r fun y hy => o y (List.mem_cons_of_mem _ hy), num_lt 8 r hr fun y hy => o y (List.mem_cons_of_mem _ hy)⟩
theorem octs_take {ns : List Int} {k : Nat} (o : Octs ns) : Octs (ns.take k) := fun x hx => o x (List.mem_of_mem_take hx)
theorem octs_drop {ns : List Int} {k : Nat} (o : Octs ns) : Octs (ns.drop k) := fun x hx => o x (List.mem_of_mem_drop hx)
theorem entOf_ok {ns : List Int} (h : ns.length = 26) (o : Octs ns) : EntOk (entOf ns) := by
  refine ⟨⟨num_nonneg _ (octs_take o), num_lt 8 _ (by rw [List.length_take]; omega) (octs_take o)⟩, octPl_b8 (by rw [List.length_take, List.length_drop]; omega) (octs_take (octs_drop o)), octPl_b8 (by rw [List.length_drop]; omega) (octs_drop o)⟩
theorem logOf_ok {k : Nat} {ns : List Int} (h : ns.length = 26 * k) (o : Octs ns) : ∀ e ∈ logOf k ns, EntOk e := fun e he => by
  obtain ⟨i, hi, rfl⟩ := List.mem_map.mp he
  have hi := List.mem_range.mp hi
  exact entOf_ok (by rw [List.length_take, List.length_drop]; omega) (octs_take (octs_drop o))
theorem octPl_plOct {p : Option Int} (h : ∀ i, p = some i → B8 i) : octPl (plOct p) = p := by
  cases p with
  | none => rfl
  | some i =>
    rw [plOct, octPl, if_neg (by decide)]
    rw [num_be (h i rfl).1 (h i rfl).2]
theorem entOf_entOct {e : Ent} (h : EntOk e) : entOf (entOct e) = e := by
  obtain ⟨n, o, m⟩ := e
  obtain ⟨h1, h2, h3⟩ := h
  have e1 : (entOct (n, o, m)).take 8 = be 8 n := by
    rw [entOct, List.append_assoc, List.take_append_of_le_length (by rw [be_length]; exact Nat.le_refl _), List.take_of_length_le (by rw [be_length]; exact Nat.le_refl _)]
  have e2 : (entOct (n, o, m)).drop 8 = plOct o ++ plOct m := by
    rw [entOct, List.append_assoc, List.drop_append_of_le_length (by rw [be_length]; exact Nat.le_refl _), List.drop_of_length_le (by rw [be_length]; exact Nat.le_refl _), List.nil_append]
  have e3 : (entOct (n, o, m)).drop 17 = plOct m := by
    have : (entOct (n, o, m)).drop 17 = ((entOct (n, o, m)).drop 8).drop 9 := by rw [List.drop_drop]
    rw [this, e2, List.drop_append_of_le_length (by rw [plOct_length]; exact Nat.le_refl _), List.drop_of_length_le (by rw [plOct_length]; exact Nat.le_refl _), List.nil_append]
  rw [entOf, e1, e2, e3, List.take_append_of_le_length (by rw [plOct_length]; exact Nat.le_refl _), List.take_of_length_le (by rw [plOct_length]; exact Nat.le_refl _), num_be h1.1 h1.2, octPl_plOct h2, octPl_plOct h3]
theorem drop_logOct : ∀ (es : List Ent) (i : Nat) (e : Ent), es[i]? = some e → ((logOct es).drop (26 * i)).take 26 = entOct e
  | [], i, e, h => by simp at h
  | x :: es, 0, e, h => by
    cases h
    show ((entOct x ++ logOct es).drop 0).take 26 = _
    rw [List.drop_zero, List.take_append_of_le_length (by rw [entOct_length]; exact Nat.le_refl _), List.take_of_length_le (by rw [entOct_length]; exact Nat.le_refl _)]
  | x :: es, i + 1, e, h => by
    show ((entOct x ++ logOct es).drop (26 * (i + 1))).take 26 = _
    have : 26 * (i + 1) = (entOct x).length + 26 * i := by rw [entOct_length]; omega
    rw [this, ← List.drop_drop, List.drop_left]
    exact drop_logOct es i e h
theorem logOf_logOct {es : List Ent} (h : ∀ e ∈ es, EntOk e) : logOf es.length (logOct es) = es := by
  apply List.ext_getElem?
  intro i
  unfold logOf
  rw [List.getElem?_map]
  by_cases hi : i < es.length
  · rw [List.getElem?_range hi, List.getElem?_eq_getElem hi]
    show some (entOf _) = _
    rw [drop_logOct es i _ (List.getElem?_eq_getElem hi), entOf_entOct (h _ (List.getElem_mem hi))]
  · rw [List.getElem?_eq_none (by rw [List.length_range]; omega), List.getElem?_eq_none (by omega)]
    rfl
end K49
namespace K49
open PySem L2
theorem sz3 : 3 ≤ sizeLine := by decide
theorem catA_of {K : PySem.W.Frag} {H : Hp} {a b : Addr} {xs ys : List V} {Q : VK} (ha : H a = some (.tup xs)) (hb : H b = some (.tup ys)) (hz : xs.length + ys.length ≤ 8000) (k : ∀ (q : Addr) H', Same H H' → H' q = some (.tup (xs ++ ys)) → Q (.ref q) H') : rCatA K (.ref a) (.ref b) H Q := by
  refine ⟨a, b, xs, ys, rfl, rfl, SqT.of ha, SqT.of hb, Nat.le_trans hz (by decide), fun z => ?_, fun _ z => ?_, fun _ _ p np => k p _ (Same.new np) upd_same⟩
  · subst z; exact k b H (Same.refl _) hb
  · subst z; exact k a H (Same.refl _) (by rw [List.append_nil]; exact ha)
abbrev sLO : Stmt := topS 32
abbrev sOL : Stmt := topS 33
def spLO : Sp := fun vs H Q _ => ∃ (a : Addr) (zs : List (Addr × Ent)) (es : List Ent), vs = [.ref a] ∧ H a = some (.tup (refs zs)) ∧ Ents H zs es ∧ es.length ≤ 60 ∧ (∀ e ∈ es, EntOk e) ∧ ∀ (q : Addr) H', Same H H' → H' q = some (.tup ((logOct es).map V.int)) → Q (.ref q) H'
def spOL : Sp := fun vs H Q _ => ∃ (a : Addr) (ns : List Int) (k : Nat), vs = [.ref a] ∧ H a = some (.tup (ns.map V.int)) ∧ ns.length = 26 * k ∧ k ≤ 60 ∧ Octs ns ∧ ∀ (q : Addr) (zs : List (Addr × Ent)) H', Same H H' → H' q = some (.tup (refs zs)) → Ents H' zs (logOf k ns) → Q (.ref q) H'
section
variable {P : Program} {w : World} {K : PySem.W.Frag} {mg : Str → Option Value} {base : Heap}
abbrev nLO : List Str := ["log", "found", "number", "old", "new"]
theorem scLO : FnScope nLO ["log"] (defScope sLO) := ⟨rfl, rfl, rfl, by decide +kernel, rfl, by decide +kernel, by decide +kernel⟩
theorem ok_lo (D : Def K mg "log_octets" sLO ["log"]) (C : Cst mg) (O3 : Ok P w K mg base CX0 3 "number_octets" ["number", "many"] spNO) (O4 : Ok P w K mg base CX0 4 "place_octets" ["place"] spPO) : Ok P w K mg base CX0 5 "log_octets" ["log"] spLO := by
  refine D.ok fun F => F.ok scLO (fun vs H Q E h => ?_) (fun cdv A outer s H vs Q E hr h => ?_)
  · obtain ⟨a, zs, es, rfl, _⟩ := h
    rfl
  · obtain ⟨a, zs, es, rfl, ha, hE, hl, hok, k⟩ := h
    refine ⟨_, pss_cons (ps_set (i := 1) scLO.nd rfl (.inl rfl) (pe_tup pa_nil))
      (pss_cons (ps_for PassesOwn.never rfl (pi_tup (pv 0)) (pg_tup (by rfl) (pgs_cons (pg_name (i := 2) scLO.nd rfl (Or.inl rfl)) (pgs_cons (pg_name (i := 3) scLO.nd rfl (Or.inl rfl)) (pgs_cons (pg_name (i := 4) scLO.nd rfl (Or.inl rfl)) pgs_nil))))
        (pss_one (ps_aug (i := 1) scLO.nd rfl (.inl rfl) (pe_op op_catA (pe_op op_catA (c_fn O3 hr (pa_cons (pv 2) (pa_cons (c_c C.width) pa_nil))) (c_fn O4 hr (pa_cons (pv 3) pa_nil))) (c_fn O4 hr (pa_cons (pv 4) pa_nil))) iop_catA)))
      (pss_one (ps_ret (pv 1)))), ?_⟩
    refine ⟨by decide, fun t nt => ?_⟩
    have ha1 := Same.at nt (o := .tup []) ha
    refine ⟨_, rfl, a, rfl, ⟨_, SqT.of ha1⟩, ?_⟩
    refine for_tup (K := K) (xs := refs zs) (fun i σ H' => Same H H' ∧ ∃ (q : Addr) (x2 x3 x4 : Option V), σ = [some (.ref a), some (.ref q), x2, x3, x4] ∧ H' q = some (.tup ((logOct (es.take i)).map V.int))) ⟨Same.new nt, t, none, none, none, rfl, upd_same⟩ (fun i σ H' _ p => SqT.of (p.1 _ _ ha)) ?_ ?_
    · rintro i x σ H' hx ⟨s1, q, x2, x3, x4, rfl, hq⟩
      obtain ⟨ea, e, rfl, he, hea, _⟩ := (hE.keep s1).of hx
      have hok' := hok e (List.mem_of_getElem? he)
      have hi : i < es.length := (List.getElem?_eq_some_iff.mp he).1
      have ltk : (es.take i).length = i := by rw [List.length_take]; omega
      refine ⟨ea, _, rfl, SqT.of hea, rfl, _, _, rfl, _, _, rfl, _, _, rfl, rfl, ?_⟩
      refine ⟨_, rfl, _, rfl, e.1, 8, rfl, hok'.1.1, by decide, hok'.1.2, fun p1 H1 t1 _ h1 => ?_⟩
      refine ⟨_, rfl, e.2.1, rfl, hok'.2.1, fun p2 H2 t2 h2 => ?_⟩
      refine catA_of (t2 _ _ h1) h2 (by rw [List.length_map, List.length_map, be_length, plOct_length]; decide) fun p3 H3 t3 h3 => ?_
      refine ⟨_, rfl, e.2.2, rfl, hok'.2.2, fun p4 H4 t4 h4 => ?_⟩
      refine catA_of (t4 _ _ h3) h4 (by rw [List.length_append, List.length_map, List.length_map, List.length_map, be_length, plOct_length, plOct_length]; decide) fun p5 H5 t5 h5 => ?_
      have t05 := (((t1.trans t2).trans t3).trans t4).trans t5
      refine catA_of (t05 _ _ hq) h5 (by rw [← List.map_append, ← List.map_append, List.length_map, List.length_map]; show _ + (entOct e).length ≤ _; rw [logOct_length, entOct_length, ltk]; omega) fun p6 H6 t6 h6 => ?_
      refine ⟨s1.trans (t05.trans t6), p6, _, _, _, rfl, ?_⟩
      have e1 : es.take (i + 1) = es.take i ++ [e] := by rw [List.take_succ, he]; rfl
      rw [h6, e1, logOct_snoc, List.map_append]
      show some (HO.tup (_ ++ (List.map V.int (be 8 e.1) ++ List.map V.int (plOct e.2.1) ++ List.map V.int (plOct e.2.2)))) = _
      rw [← List.map_append, ← List.map_append]
      rfl
    · rintro σ H' ⟨s1, q, x2, x3, x4, rfl, hq⟩
      rw [List.length_map, hE.len, List.take_length] at hq
      exact ⟨_, rfl, k q _ s1 hq⟩
abbrev nOL : List Str := ["octets", "found", "at", "entry", "old", "new"]
theorem scOL : FnScope nOL ["octets"] (defScope sOL) := ⟨rfl, rfl, rfl, by decide +kernel, rfl, by decide +kernel, by decide +kernel⟩
theorem rgs26 (k : Nat) : Builtin.Range.rangeSize 0 (26 * (k : Int)) 26 = k := by
  unfold Builtin.Range.rangeSize
  rw [if_pos (by decide)]
  by_cases h : k = 0
  · subst h; rfl
  · rw [if_pos (by omega)]
    omega
theorem rg26 (k : Nat) (hk : k ≤ 60) : RgC 0 (26 * (k : Int)) 26 k := by
  refine ⟨by decide, by decide, ?_, ?_⟩
  · unfold Builtin.Range.small
    rw [rgs26]
    unfold Builtin.Range.rangeFitsLong
    simp only [Bool.and_eq_true, Bool.or_eq_true, decide_eq_true_eq]
    refine ⟨⟨⟨⟨by omega, by omega⟩, by omega⟩, by omega⟩, .inr ?_⟩
    rw [if_pos (by decide)]
    simp only [Bool.and_eq_true, decide_eq_true_eq]
    omega
  · exact rgs26 k
theorem ok_ol (D : Def K mg "octets_log" sOL ["octets"]) (B : Blt mg) (C : Cst mg) (O5 : Ok P w K mg base CX0 5 "octets_number" ["octets"] spON) (O6 : Ok P w K mg base CX0 6 "octets_place" ["octets"] spOP) : Ok P w K mg base CX0 7 "octets_log" ["octets"] spOL := by
  refine D.ok fun F => F.ok scOL (fun vs H Q E h => ?_) (fun cdv A outer s H vs Q E hr h => ?_)
  · obtain ⟨a, ns, n, rfl, _⟩ := h
    rfl
  · obtain ⟨a, ns, n, rfl, ha, hl, hn, ho, k⟩ := h
    refine ⟨_, pss_cons (ps_set (i := 1) scOL.nd rfl (.inl rfl) (pe_lst pa_nil))
      (pss_cons (ps_for PassesOwn.never rfl (pi_range3 (by rfl) B.range (pa_cons pe_int (pa_cons (c_len B (pv 0)) (pa_cons (c_c C.entry) pa_nil)))) (pg_name (i := 2) scOL.nd rfl (Or.inl rfl))
        (pss_cons (ps_set (i := 3) scOL.nd rfl (.inl rfl) (pe_slice sl_tupA (pv 0) (po_some (pv 2)) (po_some (pe_op op_add (pv 2) (c_c C.entry)))))
        (pss_cons (ps_par (i := 4) (j := 5) (by rfl) scOL.nd rfl rfl (by decide) rfl rfl (pa_cons (pe_slice sl_tupA (pv 3) (po_some (c_c C.width)) (po_some (pe_op op_add (c_c C.width) (c_c C.part)))) (pa_cons (pe_slice sl_tupA (pv 3) (po_some (pe_op op_add (c_c C.width) (c_c C.part))) po_none) pa_nil)) (by rfl))
        (pss_one (ps_expr (c_append (pv 1) (pe_tup (pa_cons (c_fn O5 hr (pa_cons (pe_slice sl_tupA (pv 3) po_none (po_some (c_c C.width))) pa_nil)) (pa_cons (c_fn O6 hr (pa_cons (pv 4) pa_nil)) (pa_cons (c_fn O6 hr (pa_cons (pv 5) pa_nil)) pa_nil))))))))))
      (pss_one (ps_ret (c_tuple B (pv 1))))), ?_⟩
    refine ⟨by decide, fun l nl => ?_⟩
    have ha1 := Same.at nl (o := .lst []) ha
    refine ⟨_, rfl, a, _, rfl, .inr (SqT.of ha1), 0, _, 26, n, rfl, ?_, ?_⟩
    · rw [List.length_map, hl]
      exact rg26 n hn
    refine for_it (walk_rangeC (lo := 0) (c := 26) (n := n)) (fun i σ H' => Same H H' ∧ ∃ (zs : List (Addr × Ent)) (x2 x3 x4 x5 : Option V), σ = [some (.ref a), some (.ref l), x2, x3, x4, x5] ∧ H' l = some (.lst (refs zs)) ∧ Ents H' zs (logOf i ns)) ⟨Same.new nl, [], none, none, none, none, rfl, upd_same, Ents.nil⟩ (fun _ _ _ _ _ => trivial) ?_ ?_
    · rintro i x σ H' _ hi ⟨s1, zs, x2, x3, x4, x5, rfl, hL, hE⟩ ⟨rfl, rfl⟩
      have hz : zs.length = i := by rw [hE.len, logOf_length]
      have i0 : (0 : Int) + (i : Nat) * 26 = ((26 * i : Nat) : Int) := by omega
      refine ⟨_, rfl, _, rfl, _, rfl, _, rfl, _, _, rfl, rfl, _, rfl, ?_⟩
      rw [i0, show ((26 * i : Nat) : Int) + 26 = ((26 * i + 26 : Nat) : Int) by omega]
      refine slA_of (s1 _ _ ha) fun q1 H1 t1 h1 => ?_
      rw [cut_lh, show 26 * i + 26 - 26 * i = 26 by omega, ← List.map_drop, ← List.map_take] at h1
      have el : ((ns.drop (26 * i)).take 26).length = 26 := by rw [List.length_take, List.length_drop]; omega
      have eo : Octs ((ns.drop (26 * i)).take 26) := octs_take (octs_drop ho)
      generalize ee : (ns.drop (26 * i)).take 26 = en at h1 el eo
      refine ⟨_, rfl, _, rfl, _, _, rfl, rfl, _, rfl, ?_⟩
      refine slA_of h1 fun q2 H2 t2 h2 => ?_
      rw [show (some (8 : Int)) = some ((8 : Nat) : Int) from rfl, show (some ((8 : Int) + 9)) = some ((17 : Nat) : Int) from rfl, cut_lh, ← List.map_drop, ← List.map_take] at h2
      refine ⟨_, rfl, _, _, rfl, rfl, _, rfl, ?_⟩
      dsimp only [tNoPart]
      refine slA_of (t2 _ _ h1) fun q3 H3 t3 h3 => ?_
      rw [show (some ((8 : Int) + 9)) = some ((17 : Nat) : Int) from rfl, cut_lo, ← List.map_drop] at h3
      refine ⟨_, _, rfl, ?_⟩
      have t13 := (t1.trans t2).trans t3
      refine ⟨_, rfl, .inl ⟨rfl, _, SqL.of (t13 _ _ hL)⟩, _, rfl, _, rfl, ?_⟩
      dsimp only [tNoPart]
      refine slA_of ((t2.trans t3) _ _ h1) fun q4 H4 t4 h4 => ?_
      rw [show (some (8 : Int)) = some ((8 : Nat) : Int) from rfl, cut_hi, ← List.map_take] at h4
      refine ⟨q4, _, rfl, h4, by rw [List.length_take]; omega, octs_take eo, fun H5 t5 => ?_⟩
      refine ⟨_, rfl, q2, _, rfl, ((t3.trans t4).trans t5) _ _ h2, by rw [List.length_take, List.length_drop]; omega, by rw [List.length_take, List.length_drop]; omega, octs_take (octs_drop eo), fun H6 t6 => ?_⟩
      refine ⟨_, rfl, q3, _, rfl, ((t4.trans t5).trans t6) _ _ h3, by rw [List.length_drop]; omega, by rw [List.length_drop]; omega, octs_drop eo, fun H7 t7 => ?_⟩
      refine ⟨sz3, fun q8 n8 => ?_⟩
      have t17 := (((t13.trans t4).trans t5).trans t6).trans t7
      have hL8 := Same.at n8 (o := .tup [.int (num (en.take 8)), plV (octPl ((en.drop 8).take (17 - 8))), plV (octPl (en.drop 17))]) (t17 _ _ hL)
      refine ⟨l, _, _, rfl, rfl, hL8, big (by rw [List.length_map, hz]; omega), ?_⟩
      have nl8 : H l = none := nl
      refine ⟨(((s1.trans t17).up n8).put nl), zs ++ [(q8, entOf en)], _, _, _, _, rfl, ?_, ?_⟩
      · rw [upd_same]
        show some (HO.lst (refs zs ++ [V.ref q8])) = some (HO.lst (refs (zs ++ [(q8, entOf en)])))
        rw [show refs (zs ++ [(q8, entOf en)]) = refs zs ++ [V.ref q8] from List.map_append]
      · rw [logOf_succ, ee]
        refine Ents.snoc ⟨hE.eq, fun z hz => ?_⟩ ?_
        · have h0 := (t17 _ _ (hE.at' z hz))
          rw [upd_ne (ne_of (Same.at n8 h0) hL8 (by intro z; cases z))]
          exact Same.at n8 h0
        · rw [upd_ne (fun z => by rw [z] at n8; rw [t17 _ _ hL] at n8; cases n8), upd_same]
          rfl
    · rintro σ H' ⟨s1, zs, x2, x3, x4, x5, rfl, hL, hE⟩
      refine ⟨_, rfl, l, _, rfl, .inl ⟨SqL.of hL, fun q nq => ?_⟩⟩
      exact k q zs _ (s1.up nq) upd_same (hE.keep (Same.new nq))
end
end K49
namespace K49
open PySem L2
/-! ### what a log may be -/
def Bad1 (count : Int) (e : Ent) : Prop := e.2.1 = e.2.2 ∨ e.2.2 = none ∨ count ≤ e.1
def Bad2 (d e : Ent) : Prop := e.2.1 ≠ d.2.2 ∨ e.1 ≤ d.1
def First (es : List Ent) : Prop := ∃ e, es[0]? = some e ∧ (e.2.1 = none ∨ (es.length = 8 ∧ 0 < e.1))
structure LogOk (es : List Ent) (now count : Int) : Prop where
  pos : 0 < es.length
  few : es.length ≤ 8
  last : ∃ e, es[es.length - 1]? = some e ∧ e.2.2 = some now
  one : ∀ (i : Nat) e, es[i]? = some e → ¬ Bad1 count e
  two : ∀ (i : Nat) d e, es[i]? = some d → es[i + 1]? = some e → ¬ Bad2 d e
  first : First es
open Classical in
noncomputable def isLogP (es : List Ent) (now count : Int) : Bool := decide (LogOk es now count)
open Classical in
theorem isLog_t {es : List Ent} {now count : Int} (h : LogOk es now count) : isLogP es now count = true := by unfold isLogP; exact decide_eq_true h
open Classical in
theorem isLog_f {es : List Ent} {now count : Int} (h : ¬ LogOk es now count) : isLogP es now count = false := by unfold isLogP; exact decide_eq_false h
theorem plV_inj {p q : Option Int} : (plV p = plV q) ↔ p = q := by
  cases p with
  | none => cases q with
    | none => exact ⟨fun _ => rfl, fun _ => rfl⟩
    | some j => exact ⟨(fun h => by cases h), (fun h => by cases h)⟩
  | some i => cases q with
    | none => exact ⟨(fun h => by cases h), (fun h => by cases h)⟩
    | some j => exact ⟨(fun h => by injection h with h; rw [h]), (fun h => by cases h; rfl)⟩
theorem scal_pl (p q : Option Int) : scal (plV p) (plV q) = true := by cases p <;> cases q <;> rfl
theorem scal_pi (p : Option Int) (i : Int) : scal (plV p) (.int i) = true := by cases p <;> rfl
theorem plV_int {p : Option Int} {i : Int} : (plV p = V.int i) ↔ p = some i := plV_inj (q := some i)
theorem plV_non {p : Option Int} : (plV p = V.non) ↔ p = none := plV_inj (q := none)
theorem ixLT {K : PySem.W.Frag} {H : Hp} {a : Addr} {xs : List V} {i : Int} {v : V} {Q : VK} (h : LT H a xs) (hj : atI xs i = some v) (q : Q v H) : rIx K (.ref a) (.int i) H Q :=
  h.elim (fun h => .inl ⟨a, xs, i, v, rfl, rfl, SqL.of h, hj, q⟩) fun h => .inr (.inl ⟨a, xs, i, v, rfl, rfl, SqT.of h, hj, q⟩)
theorem ixT {K : PySem.W.Frag} {H : Hp} {a : Addr} {xs : List V} {j : Nat} {v : V} {Q : VK} (h : H a = some (.tup xs)) (hj : xs[j]? = some v) (q : Q v H) : rIxT K (.ref a) (.int (j : Nat)) H Q := ⟨a, xs, _, v, rfl, rfl, SqT.of h, atI_nat hj, q⟩
theorem atI_neg1 {α : Type} {xs : List α} {v : α} (h : xs[xs.length - 1]? = some v) : atI xs (-1) = some v := by
  have hl : xs.length - 1 < xs.length := (List.getElem?_eq_some_iff.mp h).1
  have : xs ≠ [] := by intro z; rw [z] at hl; exact Nat.not_lt_zero _ hl
  have e := (List.dropLast_concat_getLast this)
  have ev : xs.getLast this = v := by
    rw [List.getElem?_eq_getElem hl] at h
    rw [List.getLast_eq_getElem]
    exact Option.some.inj h
  rw [← e, ev]
  exact atI_last _ _
/-! ### enumerate, list or tuple -/
@[irreducible] def iEn (K : PySem.W.Frag) (ta : TA) : TI := iEnumA K ta
theorem pi_en {X : Cx} {e : Expr} {ta : TA} {p pos tpos : Pos} {elts : List Expr} {kk : Nat} (hg : Gl X "enumerate") (hm : X.mg "enumerate" = none) (ha : PA X [e] ta) (hs : starEach [e] X.env = [(false, eval e X.env)] := by rfl) :
    PI X (.Tuple elts kk tpos) (.Call (.Name "enumerate" p) [e] [] pos) (iEn X.K ta) := by
  unfold iEn
  exact pi_enumA hg hm ha hs
theorem en_walk {K : PySem.W.Frag} {σ : St} {H : Hp} {R : It → Hp → Prop} {a : Addr} {xs : List V} {i : Nat} (hi : σ[i]? = some (some (.ref a))) (h : LT H a xs) (k : ∀ J, Walk J xs.length (fun H' => Same H H') (YPair (fun i => some (.int (i : Nat))) (fun i => xs[i]?)) → R J H) : iEn K (tCons (tVar i) tNil) σ H R := by
  unfold iEn
  refine ⟨_, hi, a, xs, rfl, ?_⟩
  rcases h with h | h
  · exact .inl ⟨SqL.of h, k _ (walk_enum.mono (fun H' z => SqL.of (z _ _ h)) fun _ _ _ _ _ _ y => y)⟩
  · exact .inr ⟨SqT.of h, k _ (walk_enumT.mono (fun H' z => SqT.of (z _ _ h)) fun _ _ _ _ _ _ y => y)⟩
abbrev sLg : Stmt := topS 34
abbrev nLg : List Str := ["log", "now", "count", "at", "number", "old", "new"]
def spLg : Sp := fun vs H Q _ => ∃ (a : Addr) (zs : List (Addr × Ent)) (es : List Ent) (now count : Int), vs = [.ref a, .int now, .int count] ∧ LT H a (refs zs) ∧ Ents H zs es ∧ ∀ H', Same H H' → Q (.bl (isLogP es now count)) H'
section
variable {P : Program} {w : World} {K : PySem.W.Frag} {mg : Str → Option Value} {base : Heap}
theorem scLg : FnScope nLg ["log", "now", "count"] (defScope sLg) := ⟨rfl, rfl, rfl, by decide +kernel, rfl, by decide +kernel, by decide +kernel⟩
theorem ok_lg {f : Addr} {fd : FuncData} (F : Fun K "is_log" "is_log" sLg f fd) (B : Blt mg) (hen : mg "enumerate" = none) (C : Cst mg) : FnOk P w K mg base CX0 1 f fd ["log", "now", "count"] spLg := by
  refine F.ok scLg (fun vs H Q E h => ?_) (fun cdv A outer s H vs Q E hr h => ?_)
  · obtain ⟨a, zs, es, now, count, rfl, _⟩ := h
    rfl
  · obtain ⟨a, zs, es, now, count, rfl, ha, hE, k⟩ := h
    refine ⟨_, pss_cons (ps_if (PW.pt (pw_or (pt_not (pt_chain op_lt op_le pe_int (c_len B (pv 0)) (c_c C.kept))) (pw_or1 (pt_cmpR op_ne (pe_ix ix_tup (pe_ix ix_seq (pv 0) (pe_un un_neg pe_int) (fun _ _ => rfl)) pe_int (fun _ _ => rfl)) (pv 1) (nomark _))))) (pss_one (ps_ret pe_bl)) pss_nil)
      (pss_cons (ps_for PassesOwn.never rfl (pi_en (by rfl) hen (pa_cons (pv 0) pa_nil)) (pg_tup (by rfl) (pgs_cons (pg_name (i := 3) scLg.nd rfl (Or.inl rfl)) (pgs_cons (pg_tup (by rfl) (pgs_cons (pg_name (i := 4) scLg.nd rfl (Or.inl rfl)) (pgs_cons (pg_name (i := 5) scLg.nd rfl (Or.inl rfl)) (pgs_cons (pg_name (i := 6) scLg.nd rfl (Or.inl rfl)) pgs_nil)))) pgs_nil)))
        (pss_cons (ps_if (PW.pt (pw_or (pt_cmpR op_eq (pv 5) (pv 6) (nomark _)) (pw_or (pt_cmpR op_isN (pv 6) pe_non (nomark _)) (pw_or1 (pt_not (pt_cmpR op_lt (pv 4) (pv 2) (nomark _))))))) (pss_one (ps_ret pe_bl)) pss_nil)
        (pss_one (ps_if (PW.pt (pw_and (pt_cmpR op_gt (pv 3) pe_int (nomark _)) (pw_and1 (PW.pt (pw_or (pt_cmpR op_ne (pv 5) (pe_ix ix_tup (pe_ix ix_seq (pv 0) (pe_op op_sub (pv 3) pe_int) (fun _ _ => rfl)) pe_int (fun _ _ => rfl)) (nomark _))
          (pw_or1 (pt_cmpR op_le (pv 4) (pe_ix ix_tup (pe_ix ix_seq (pv 0) (pe_op op_sub (pv 3) pe_int) (fun _ _ => rfl)) pe_int (fun _ _ => rfl)) (nomark _)))))))) (pss_one (ps_ret pe_bl)) pss_nil))))
      (pss_one (ps_ret (pe_or (pe_cmpR op_isN (pe_ix ix_tup (pe_ix ix_seq (pv 0) pe_int (fun _ _ => rfl)) pe_int (fun _ _ => rfl)) pe_non (nomark _)) (pe_one (pe_and (pe_cmpR op_eq (c_len B (pv 0)) (c_c C.kept) (nomark _)) (pe_one (pe_cmpR op_gt (pe_ix ix_tup (pe_ix ix_seq (pv 0) pe_int (fun _ _ => rfl)) pe_int (fun _ _ => rfl)) pe_int (nomark _))))))))), ?_⟩
    have neg : ∀ {H' : Hp}, Same H H' → ¬ LogOk es now count → Q (.bl false) H' := fun s h => by
      have := k _ s
      rwa [isLog_f h] at this
    have lz : (refs zs).length = es.length := by rw [List.length_map, hE.len]
    have lz' : (((refs zs).length : Nat) : Int) = (es.length : Int) := by rw [lz]
    refine ⟨_, rfl, a, _, rfl, ha.sq, _, _, rfl, rfl, _, rfl, ?_⟩
    rw [lz']
    by_cases h0 : 0 < es.length
    · refine ite2 (fun _ => ?_) (fun z => absurd (decide_eq_true (by omega)) z)
      refine ⟨_, _, rfl, rfl, _, rfl, ?_⟩
      by_cases h8 : es.length ≤ 8
      · show if (!decide ((es.length : Int) ≤ 8)) = true then _ else _
        rw [decide_eq_true (by omega : (es.length : Int) ≤ 8)]
        refine iteF ?_
        obtain ⟨le, hle⟩ : ∃ e, es[es.length - 1]? = some e := ⟨_, List.getElem?_eq_getElem (by omega)⟩
        obtain ⟨la, _, hla, hlt⟩ := hE.get hle
        refine ⟨_, rfl, _, rfl, ixLT ha (atI_neg1 (by rw [lz]; exact hla)) ⟨la, _, _, _, rfl, rfl, SqT.of hlt, atI_nat (j := 2) rfl, _, rfl, scal_pi _ _, _, rfl, ?_⟩⟩
        by_cases hl : le.2.2 = some now
        · rw [decide_eq_true (plV_int.mpr hl)]
          refine iteF ?_
          refine en_walk (K := K) (i := 0) (a := a) (xs := refs zs) ?_ ha ?_
          · rfl
          intro J wJ
          refine for_it wJ (fun i σ H' => Same H H' ∧ (∀ j e, j < i → es[j]? = some e → ¬ Bad1 count e) ∧ (∀ j d e, j + 1 < i → es[j]? = some d → es[j + 1]? = some e → ¬ Bad2 d e) ∧ ∃ (x3 x4 x5 x6 : Option V), σ = [some (.ref a), some (.int now), some (.int count), x3, x4, x5, x6]) ⟨Same.refl _, (fun j e z => absurd z (Nat.not_lt_zero _)), (fun j d e z => absurd z (Nat.not_lt_zero _)), none, none, none, none, rfl⟩ (fun i σ H' _ p => p.1) ?_ ?_
          · rintro i x σ H1 H2 hi ⟨s1, hb1, hb2, x3, x4, x5, x6, rfl⟩ ⟨T, v1, v2, rfl, hT, rfl, e1, e2⟩
            cases e1
            obtain ⟨ea, e, rfl, he, hea, _⟩ := (hE.keep s1).of e2
            have s2 := s1.up hT (o := .tup [.int (i : Nat), .ref ea])
            refine ⟨T, _, rfl, SqT.of upd_same, rfl, _, _, rfl, _, _, rfl, ?_⟩
            refine ⟨ea, _, rfl, SqT.of (Same.at hT hea), rfl, _, _, rfl, _, _, rfl, _, _, rfl, rfl, rfl, ?_⟩
            have bad1 : Bad1 count e → Q (.bl false) (upd H1 T (.tup [.int (i : Nat), .ref ea])) := fun hb => neg s2 fun z => z.one i e he hb
            refine ⟨_, rfl, _, rfl, scal_pl _ _, _, rfl, ?_⟩
            by_cases c1 : e.2.1 = e.2.2
            · rw [decide_eq_true (plV_inj.mpr c1)]
              exact iteT (iteT (bad1 (.inl c1)))
            rw [decide_eq_false (fun z => c1 (plV_inj.mp z))]
            refine iteF ⟨_, rfl, rfl, _, rfl, ?_⟩
            by_cases c2 : e.2.2 = none
            · rw [decide_eq_true (plV_non.mpr c2)]
              exact iteT (iteT (bad1 (.inr (.inl c2))))
            rw [decide_eq_false (fun z => c2 (plV_non.mp z))]
            refine iteF ⟨_, rfl, _, rfl, _, _, rfl, rfl, _, rfl, ?_⟩
            by_cases c3 : e.1 < count
            · rw [decide_eq_true c3]
              refine iteF ?_
              have nb1 : ¬ Bad1 count e := fun z => by
                rcases z with z | z | z
                · exact c1 z
                · exact c2 z
                · exact absurd c3 (by omega)
              have next1 : ∀ j e', j < i + 1 → es[j]? = some e' → ¬ Bad1 count e' := fun j e' hj he' => by
                rcases Nat.lt_succ_iff_lt_or_eq.mp hj with hj | rfl
                · exact hb1 j e' hj he'
                · rw [he] at he'; cases he'; exact nb1
              refine ⟨_, rfl, _, _, rfl, rfl, _, rfl, ?_⟩
              cases i with
              | zero =>
                refine ite2 (fun z => absurd (of_decide_eq_true z) (by decide)) (fun _ => ?_)
                refine iteF ⟨s2, next1, (fun j d e' hj => by omega), _, _, _, _, rfl⟩
              | succ i =>
                refine ite2 (fun _ => ?_) (fun z => absurd (decide_eq_true (by omega)) z)
                obtain ⟨d, hd⟩ : ∃ d, es[i]? = some d := by
                  have : i + 1 < es.length := (List.getElem?_eq_some_iff.mp he).1
                  exact ⟨_, List.getElem?_eq_getElem (by omega)⟩
                obtain ⟨da, _, hda, hdt⟩ := (hE.keep s2).get hd
                have ei : ((i + 1 : Nat) : Int) - 1 = (i : Nat) := by omega
                have ha2 := ha.keep s2
                refine ⟨_, rfl, _, rfl, _, rfl, _, _, rfl, rfl, ?_⟩
                refine ixLT (i := ((i + 1 : Nat) : Int) - 1) ha2 (by rw [ei]; exact atI_nat hda) ?_
                refine ⟨da, _, _, _, rfl, rfl, SqT.of hdt, atI_nat (j := 2) rfl, scal_pl _ _, _, rfl, ?_⟩
                have bad2 : Bad2 d e → Q (.bl false) (upd H1 T (.tup [.int ((i + 1 : Nat) : Int), .ref ea])) := fun hb => neg s2 fun z => z.two i d e hd he hb
                by_cases c4 : e.2.1 = d.2.2
                · rw [decide_eq_true (plV_inj.mpr c4)]
                  refine iteF ⟨_, rfl, _, rfl, _, rfl, _, _, rfl, rfl, ?_⟩
                  refine ixLT (i := ((i + 1 : Nat) : Int) - 1) ha2 (by rw [ei]; exact atI_nat hda) ?_
                  refine ⟨da, _, _, _, rfl, rfl, SqT.of hdt, atI_nat (j := 0) rfl, _, _, rfl, rfl, _, rfl, ?_⟩
                  by_cases c5 : e.1 ≤ d.1
                  · rw [decide_eq_true c5]
                    exact iteT (bad2 (.inr c5))
                  · rw [decide_eq_false c5]
                    refine iteF ⟨s2, next1, fun j d' e' hj hd' he' => ?_, _, _, _, _, rfl⟩
                    rcases Nat.lt_succ_iff_lt_or_eq.mp hj with hj | hj
                    · exact hb2 j d' e' hj hd' he'
                    · have : j = i := by omega
                      subst this
                      rw [hd] at hd'; cases hd'
                      rw [he] at he'; cases he'
                      exact fun z => Or.elim z (fun z => z c4) c5
                · rw [decide_eq_false (fun z => c4 (plV_inj.mp z))]
                  exact iteT (iteT (bad2 (.inl c4)))
            · rw [decide_eq_false c3]
              exact iteT (bad1 (.inr (.inr (by omega))))
          · rintro σ H1 ⟨s1, hb1, hb2, x3, x4, x5, x6, rfl⟩
            have n1 : ∀ (i : Nat) e, es[i]? = some e → ¬ Bad1 count e := fun i e he => hb1 i e (by rw [lz]; exact (List.getElem?_eq_some_iff.mp he).1) he
            have n2 : ∀ (i : Nat) d e, es[i]? = some d → es[i + 1]? = some e → ¬ Bad2 d e := fun i d e hd he => hb2 i d e (by rw [lz]; exact (List.getElem?_eq_some_iff.mp he).1) hd he
            obtain ⟨f, hf⟩ : ∃ e, es[0]? = some e := ⟨_, List.getElem?_eq_getElem h0⟩
            obtain ⟨fa, _, hfa, hft⟩ := (hE.keep s1).get hf
            have ha2 := ha.keep s1
            have fin : ∀ b : Bool, (b = true ↔ (f.2.1 = none ∨ (es.length = 8 ∧ 0 < f.1))) → Q (.bl b) H1 := fun b hb => by
              have k' := k H1 s1
              by_cases hh : f.2.1 = none ∨ (es.length = 8 ∧ 0 < f.1)
              · rw [isLog_t ⟨h0, h8, ⟨le, hle, hl⟩, n1, n2, f, hf, hh⟩] at k'
                rw [hb.mpr hh]; exact k'
              · rw [isLog_f (fun z => by obtain ⟨g, hg, hg2⟩ := z.first; rw [hf] at hg; cases hg; exact hh hg2)] at k'
                cases b with
                | false => exact k'
                | true => exact absurd (hb.mp rfl) hh
            refine ⟨_, rfl, ixLT ha2 (atI_nat (j := 0) hfa) ⟨fa, _, _, _, rfl, rfl, SqT.of hft, atI_nat (j := 1) rfl, rfl, _, rfl, ?_⟩⟩
            by_cases c1 : f.2.1 = none
            · rw [decide_eq_true (plV_non.mpr c1)]
              exact fin true ⟨fun _ => .inl c1, fun _ => rfl⟩
            · rw [decide_eq_false (fun z => c1 (plV_non.mp z))]
              refine ⟨_, rfl, a, _, rfl, ha2.sq, rfl, _, rfl, ?_⟩
              by_cases c2 : es.length = 8
              · rw [decide_eq_true (show V.int ((refs zs).length : Nat) = V.int 8 by rw [lz, c2]; rfl)]
                refine ⟨_, rfl, ixLT ha2 (atI_nat (j := 0) hfa) ⟨fa, _, _, _, rfl, rfl, SqT.of hft, atI_nat (j := 0) rfl, _, _, rfl, rfl, ?_⟩⟩
                exact fin _ ⟨fun z => .inr ⟨c2, of_decide_eq_true z⟩, fun z => Or.elim z (fun z => absurd z c1) fun z => decide_eq_true z.2⟩
              · rw [decide_eq_false (fun z => c2 (by injection z with z; rw [lz] at z; omega))]
                exact fin false ⟨(fun z => by cases z), fun z => Or.elim z (fun z => absurd z c1) fun z => absurd z.1 c2⟩
        · rw [decide_eq_false (fun z => hl (plV_int.mp z))]
          refine iteT (neg (Same.refl _) fun z => ?_)
          obtain ⟨e, he, hn⟩ := z.last
          rw [hle] at he
          cases he
          exact hl hn
      · show if (!decide ((es.length : Int) ≤ 8)) = true then _ else _
        rw [decide_eq_false (by omega : ¬ (es.length : Int) ≤ 8)]
        exact iteT (neg (Same.refl _) fun z => h8 z.few)
    · refine ite2 (fun z => absurd (of_decide_eq_true z) (by omega)) (fun _ => ?_)
      exact ⟨_, rfl, iteT (neg (Same.refl _) fun z => h0 z.pos)⟩
end
end K49
namespace K49
open PySem L2
/-! ### octets of a log that tell a log -/
abbrev sAL : Stmt := topS 35
def arLog (ns : List Int) : Bool := decide (ns.length ≠ 0) && (decide (ns.length % 26 = 0) && (decide (logOct (logOf (ns.length / 26) ns) = ns) && (logOf (ns.length / 26) ns).all fun e => plOk e.2.1 && plOk e.2.2))
def spAL : Sp := fun vs H Q _ => ∃ (a : Addr) (ns : List Int), vs = [.ref a] ∧ H a = some (.tup (ns.map V.int)) ∧ ns.length ≤ 1560 ∧ Octs ns ∧ ∀ H', Same H H' → Q (.bl (arLog ns)) H'
theorem pg_tupK {X : Cx} {K : PySem.W.Frag} {es : List Expr} {k : Nat} {t : TGs} {n : Nat} {pos : Pos} (hK : X.K = K) (hc : X.calm = true) (h : PGs X es t)
    (hn : (assignEach es X.env).length = n := by rfl) (hst : (assignEach es X.env).findIdx? (·.1) = none := by rfl) : PG X (.Tuple es k pos) (gTup K n t) := by
  subst hK
  exact pg_tup hc h hn hst
theorem eqv_row (ns ms : List Int) : PyData.eqv (.tuple (ns.map .int)) (.tuple (ms.map .int)) = decide (ns = ms) := by
  rw [PyData.eqv]
  exact eqvAll_ints ns ms
abbrev g3 (K : PySem.W.Frag) (i j l : Nat) : TG := gTup K 3 (gCons (gName i) (gCons (gName j) (gCons (gName l) gNil)))
abbrev g2 (K : PySem.W.Frag) (i j : Nat) : TG := gTup K 2 (gCons (gName i) (gCons (gName j) gNil))
section
variable {P : Program} {w : World} {K : PySem.W.Frag} {mg : Str → Option Value} {base : Heap}
abbrev nAL : List Str := ["value", "number", "old", "new"]
theorem scAL : FnScope nAL ["value"] (defScope sAL) := ⟨rfl, rfl, rfl, by decide +kernel, rfl, by decide +kernel, by decide +kernel⟩
theorem ok_al (D : Def K mg "are_log_octets" sAL ["value"]) (B : Blt mg) (C : Cst mg) (O4 : Ok P w K mg base CX0 4 "is_place" ["value"] spPl) (O5 : Ok P w K mg base CX0 5 "log_octets" ["log"] spLO) (O7 : Ok P w K mg base CX0 7 "octets_log" ["octets"] spOL) : Ok P w K mg base CX0 8 "are_log_octets" ["value"] spAL := by
  refine D.ok fun F => F.ok scAL (fun vs H Q E h => ?_) (fun cdv A outer s H vs Q E hr h => ?_)
  · obtain ⟨a, ns, rfl, _⟩ := h
    rfl
  · obtain ⟨a, ns, rfl, ha, hl, ho, k⟩ := h
    refine ⟨_, pss_cons (ps_if (PW.pt (pw_or (pt_cmpR op_eq (c_len B (pv 0)) pe_int (nomark _)) (pw_or (pt_cmpR op_ne (pe_op op_mod (c_len B (pv 0)) (c_c C.entry)) pe_int (nomark _))
        (pw_or1 (pt_cmpR (op_neD hr.units) (c_fn O5 hr (pa_cons (c_fn O7 hr (pa_cons (pv 0) pa_nil)) pa_nil)) (c_tuple B (pv 0)) (nomark _)))))) (pss_one (ps_ret pe_bl)) pss_nil)
      (pss_one (ps_ret (c_all rfl B (pe_lc (own := [("number", 1), ("old", 2), ("new", 3)]) (g := g3 K 1 2 3) (by rfl) scAL.nd (pi_tup (c_fn O7 hr (pa_cons (pv 0) pa_nil))) (blkOk_by (own := [("number", 1), ("old", 2), ("new", 3)]) (N := nAL) (sc := defScope sAL) (by decide +kernel))
        (fun _ _ _ _ _ => pg_tupK rfl (by rfl) (pgs_cons (pg_name (i := 1) scAL.nd rfl (Or.inl rfl)) (pgs_cons (pg_name (i := 2) scAL.nd rfl (Or.inl rfl)) (pgs_cons (pg_name (i := 3) scAL.nd rfl (Or.inl rfl)) pgs_nil))))
        (fun _ _ _ _ _ => pts_nil) (fun _ _ _ _ _ => pe_and (c_fn O4 hr (pa_cons (pv 2) pa_nil)) (pe_one (c_fn O4 hr (pa_cons (pv 3) pa_nil)))))))), ?_⟩
    have neg : ∀ {H' : Hp}, Same H H' → arLog ns = false → Q (.bl false) H' := fun s h => by
      have := k _ s
      rwa [h] at this
    refine ⟨_, rfl, a, _, rfl, .inr (SqT.of ha), rfl, _, rfl, ?_⟩
    by_cases h0 : ns.length = 0
    · rw [decide_eq_true (show V.int ((ns.map V.int).length : Nat) = V.int 0 by rw [List.length_map, h0]; rfl)]
      exact iteT (iteT (neg (Same.refl _) (by unfold arLog; rw [decide_eq_false (fun z => z h0)]; rfl)))
    rw [decide_eq_false (fun z => h0 (by injection z with z; rw [List.length_map] at z; omega))]
    refine iteF ⟨_, rfl, a, _, rfl, .inr (SqT.of ha), _, _, rfl, rfl, (by decide : (0 : Int) < 26), rfl, _, rfl, ?_⟩
    by_cases h26 : ns.length % 26 = 0
    · rw [decide_eq_true (show V.int (((ns.map V.int).length : Nat) % 26) = V.int 0 by rw [List.length_map]; congr 1; omega)]
      refine iteF ?_
      have hn : ns.length = 26 * (ns.length / 26) := by omega
      generalize hkk : ns.length / 26 = kk at hn
      have hok := logOf_ok hn ho
      refine ⟨_, rfl, a, ns, kk, rfl, ha, hn, by omega, ho, fun q zs H1 s1 hq hE => ?_⟩
      refine ⟨q, zs, _, rfl, hq, hE, by rw [logOf_length]; omega, hok, fun q2 H2 s2 hq2 => ?_⟩
      have s12 := s1.trans s2
      refine ⟨_, rfl, a, _, rfl, .inr ⟨SqT.of (s12 _ _ ha), ?_⟩⟩
      refine ⟨_, _, dp_row hq2, dp_row (s12 _ _ ha), shaped_tup _, shaped_tup _, _, rfl, ?_⟩
      rw [eqv_row]
      have e0 : arLog ns = (decide (logOct (logOf kk ns) = ns) && (logOf kk ns).all fun e => plOk e.2.1 && plOk e.2.2) := by
        unfold arLog
        rw [decide_eq_true h0, decide_eq_true h26, hkk, Bool.true_and, Bool.true_and]
      by_cases h3 : logOct (logOf kk ns) = ns
      · rw [decide_eq_true h3] at e0 ⊢
        rw [Bool.true_and] at e0
        refine iteF ?_
        refine ⟨_, rfl, a, ns, kk, rfl, s12 _ _ ha, hn, by omega, ho, fun q3 zs3 H3 s3 hq3 hE3 => ?_⟩
        refine ⟨q3, rfl, ⟨_, SqT.of hq3⟩, fun L nL => ?_⟩
        have l3 : (refs zs3).length = kk := by rw [List.length_map, hE3.len, logOf_length]
        refine lcA (walk_tup (K := K) (a := q3) (xs := refs zs3)) (fun i => .bl (match (logOf kk ns)[i]? with | some e => plOk e.2.1 && plOk e.2.2 | none => true)) nL (big (by rw [l3]; omega)) (fun H' s => SqT.of (s _ _ hq3)) ?_ ?_
        · rintro i x H4 H5 acc N hi s4 ⟨rfl, hx⟩ hD hacc kt
          obtain ⟨ea, e, rfl, he, hea, _⟩ := (hE3.keep s4).of hx
          refine ⟨ea, _, rfl, SqT.of hea, rfl, _, _, rfl, _, _, rfl, _, _, rfl, rfl, rfl, ?_⟩
          have kt' := kt H5 (Same.refl _)
          rw [he] at kt'
          replace kt' : N (upd H5 L (.lst (acc ++ [V.bl (plOk e.2.1 && plOk e.2.2)]))) := kt'
          refine ⟨_, rfl, e.2.1, rfl, _, rfl, ?_⟩
          cases c1 : plOk e.2.1 with
          | true =>
            refine ⟨_, rfl, e.2.2, rfl, acc, hD, hacc, ?_⟩
            rw [c1, Bool.true_and] at kt'
            exact kt'
          | false =>
            refine ⟨acc, hD, hacc, ?_⟩
            rw [c1, Bool.false_and] at kt'
            exact kt'
        · intro H4 s4 hD
          refine ⟨L, (List.range (refs zs3).length).map (fun i => match (logOf kk ns)[i]? with | some e => plOk e.2.1 && plOk e.2.2 | none => true), rfl, SqL.of (by rw [List.map_map]; exact hD), ?_⟩
          have e1 : ((List.range (refs zs3).length).map (fun i => match (logOf kk ns)[i]? with | some e => plOk e.2.1 && plOk e.2.2 | none => true)).all id = (logOf kk ns).all fun e => plOk e.2.1 && plOk e.2.2 := by
            rw [l3, Bool.eq_iff_iff, List.all_eq_true, List.all_eq_true]
            constructor
            · intro h e he
              obtain ⟨i, hi⟩ := List.mem_iff_getElem?.mp he
              have hik : i < kk := by have := (List.getElem?_eq_some_iff.mp hi).1; rwa [logOf_length] at this
              have := h _ (List.mem_map.mpr ⟨i, List.mem_range.mpr hik, rfl⟩)
              rw [hi] at this
              exact this
            · intro h x hx
              obtain ⟨i, hi, rfl⟩ := List.mem_map.mp hx
              cases c : (logOf kk ns)[i]? with
              | none => rfl
              | some e => exact h e (List.mem_of_getElem? c)
          rw [e1, ← e0]
          exact k _ ((s12.trans s3).trans s4)
      · rw [decide_eq_false h3] at e0 ⊢
        exact iteT (neg s12 e0)
    · rw [decide_eq_false (fun z => h26 (by injection z with z; rw [List.length_map] at z; omega))]
      exact iteT (iteT (neg (Same.refl _) (by unfold arLog; rw [decide_eq_false h26, Bool.false_and, Bool.and_false])))
end
end K49
namespace K49
open PySem L2
/-! ### dicts by rows -/
theorem valV_row {κ κ' : Type} [DecidableEq κ] [DecidableEq κ'] {f : κ → κ'} (inj : ∀ a b, f a = f b → a = b) : ∀ (l : List (κ × V)) (k : κ), valV (l.map fun e => (f e.1, e.2)) (f k) = valV l k
  | [], _ => rfl
  | p :: r, k => by
    rw [List.map_cons]
    by_cases e : p.1 = k
    · rw [valV_pos (p := (f p.1, p.2)) (show (f p.1, p.2).1 = f k by rw [← e]), valV_pos e]
    · rw [valV_neg (p := (f p.1, p.2)) (fun z => e (inj _ _ z)), valV_neg e]
      exact valV_row inj r k
theorem any_row {κ κ' : Type} [DecidableEq κ] [DecidableEq κ'] {f : κ → κ'} (inj : ∀ a b, f a = f b → a = b) (l : List (κ × V)) (k : κ) : ((l.map fun e => (f e.1, e.2)).any fun kv => decide (kv.1 = f k)) = l.any fun kv => decide (kv.1 = k) := by
  rw [List.any_map, Bool.eq_iff_iff, List.any_eq_true, List.any_eq_true]
  exact ⟨fun ⟨x, h1, h2⟩ => ⟨x, h1, decide_eq_true (inj _ _ (of_decide_eq_true h2))⟩, fun ⟨x, h1, h2⟩ => ⟨x, h1, decide_eq_true (congrArg f (of_decide_eq_true h2))⟩⟩
theorem putK_row {κ κ' : Type} [DecidableEq κ] [DecidableEq κ'] {f : κ → κ'} (inj : ∀ a b, f a = f b → a = b) (l : List (κ × V)) (k : κ) (v : V) : putK (l.map fun e => (f e.1, e.2)) (f k) v = (putK l k v).map fun e => (f e.1, e.2) := by
  unfold putK
  rw [any_row inj]
  split
  · rw [List.map_map, List.map_map]
    refine List.map_congr_left fun x _ => ?_
    show (if f x.1 = f k then (f x.1, v) else (f x.1, x.2)) = (fun e : κ × V => (f e.1, e.2)) (if x.1 = k then (x.1, v) else x)
    by_cases e : x.1 = k
    · rw [if_pos (by rw [e]), if_pos e]
    · rw [if_neg (fun z => e (inj _ _ z)), if_neg e]
  · rw [List.map_append]
    rfl
theorem row_inj' : ∀ a b : List Int, row a = row b → a = b := fun _ _ => row_inj
theorem val_rows (l : List (List Int × V)) (k : List Int) : valV (rowsKV l) (row k) = valV l k := valV_row row_inj' l k
theorem put_rows (l : List (List Int × V)) (k : List Int) (v : V) : putK (rowsKV l) (row k) v = rowsKV (putK l k v) := putK_row row_inj' l k v
/-- put in its place, or at the end -/
def putR {α : Type} (l : List (List Int × α)) (k : List Int) (a : α) : List (List Int × α) := if l.any (fun e => decide (e.1 = k)) then l.map (fun e => if e.1 = k then (e.1, a) else e) else l ++ [(k, a)]
def getR {α : Type} (l : List (List Int × α)) (k : List Int) : Option α := (l.find? fun e => decide (e.1 = k)).map (·.2)
/-- a dict by rows at d, its values as R says -/
def RD {α : Type} (R : Hp → V → α → Prop) (H : Hp) (d : Addr) (l : List (List Int × α)) : Prop := ∃ lv : List (List Int × V), H d = some (.dT (rowsKV lv)) ∧ Paired (fun (p : List Int × V) (q : List Int × α) => p.1 = q.1 ∧ R H p.2 q.2) lv l
theorem pair_val {α : Type} {F : V → α → Prop} {lv : List (List Int × V)} {l : List (List Int × α)} (h : Paired (fun (p : List Int × V) (q : List Int × α) => p.1 = q.1 ∧ F p.2 q.2) lv l) (k : List Int) : (valV lv k = none ∧ getR l k = none) ∨ ∃ v a, valV lv k = some v ∧ getR l k = some a ∧ F v a := by
  induction h with
  | nil => exact .inl ⟨rfl, rfl⟩
  | @cons p q ps qs hq t ih =>
    by_cases e : p.1 = k
    · refine .inr ⟨p.2, q.2, valV_pos e, ?_, hq.2⟩
      unfold getR
      rw [List.find?_cons_of_pos (by simp [← hq.1, e])]
      rfl
    · have e2 : ¬ q.1 = k := fun z => e (hq.1.trans z)
      rw [valV_neg e]
      have : getR (q :: qs) k = getR qs k := by
        unfold getR
        rw [List.find?_cons_of_neg (by simp [e2])]
      rw [this]
      exact ih
theorem pair_any {α : Type} {F : V → α → Prop} {lv : List (List Int × V)} {l : List (List Int × α)} (h : Paired (fun (p : List Int × V) (q : List Int × α) => p.1 = q.1 ∧ F p.2 q.2) lv l) (k : List Int) : (lv.any fun e => decide (e.1 = k)) = l.any fun e => decide (e.1 = k) := by
  induction h with
  | nil => rfl
  | @cons p q ps qs hq t ih => rw [List.any_cons, List.any_cons, ih, hq.1]
theorem pair_map {α : Type} {F : V → α → Prop} {lv : List (List Int × V)} {l : List (List Int × α)} (h : Paired (fun (p : List Int × V) (q : List Int × α) => p.1 = q.1 ∧ F p.2 q.2) lv l) (k : List Int) {v : V} {a : α} (hv : F v a) :
    Paired (fun (p : List Int × V) (q : List Int × α) => p.1 = q.1 ∧ F p.2 q.2) (lv.map fun e => if e.1 = k then (e.1, v) else e) (l.map fun e => if e.1 = k then (e.1, a) else e) := by
  induction h with
  | nil => exact .nil
  | @cons p q ps qs hq t ih =>
    rw [List.map_cons, List.map_cons]
    refine .cons ?_ ih
    by_cases e : p.1 = k
    · rw [if_pos e, if_pos (hq.1.symm.trans e)]
      exact ⟨hq.1, hv⟩
    · rw [if_neg e, if_neg (fun z => e (hq.1.trans z))]
      exact hq
theorem pair_snoc {α β : Type} {F : α → β → Prop} {xs : List α} {ys : List β} (h : Paired F xs ys) {x : α} {y : β} (hf : F x y) : Paired F (xs ++ [x]) (ys ++ [y]) := by
  induction h with
  | nil => exact .cons hf .nil
  | cons hq t ih => exact .cons hq ih
theorem pair_put {α : Type} {F : V → α → Prop} {lv : List (List Int × V)} {l : List (List Int × α)} (h : Paired (fun (p : List Int × V) (q : List Int × α) => p.1 = q.1 ∧ F p.2 q.2) lv l) (k : List Int) {v : V} {a : α} (hv : F v a) :
    Paired (fun (p : List Int × V) (q : List Int × α) => p.1 = q.1 ∧ F p.2 q.2) (putK lv k v) (putR l k a) := by
  unfold putK putR
  rw [pair_any h k]
  split
  · exact pair_map h k hv
  · exact pair_snoc h ⟨rfl, hv⟩
end K49
namespace K49
open PySem L2
/-! ### what is kept beside dicts by rows -/
def KeepN (H H' : Hp) : Prop := ∀ c o, H c = some o → (∀ kvs, o ≠ .dT kvs) → H' c = some o
theorem KeepN.refl (H : Hp) : KeepN H H := fun _ _ h _ => h
theorem KeepN.trans {H H1 H2 : Hp} (x : KeepN H H1) (y : KeepN H1 H2) : KeepN H H2 := fun c o h n => y c o (x c o h n) n
theorem KeepN.of {H H' : Hp} (s : Same H H') : KeepN H H' := fun c o h _ => s c o h
theorem KeepN.up {H : Hp} {d : Addr} {kvs : List (List Key × V)} {o : HO} (h : H d = some (.dT kvs)) : KeepN H (upd H d o) := fun c u hc n => by
  rw [upd_ne (fun z => by rw [z, h] at hc; cases hc; exact n _ rfl)]
  exact hc
theorem KeepN.tup {H H' : Hp} {a : Addr} {xs : List V} (k : KeepN H H') (h : H a = some (.tup xs)) : H' a = some (.tup xs) := k a _ h (fun _ z => by cases z)
theorem KeepN.lst {H H' : Hp} {a : Addr} {xs : List V} (k : KeepN H H') (h : H a = some (.lst xs)) : H' a = some (.lst xs) := k a _ h (fun _ z => by cases z)
theorem Ents.keepN {H H' : Hp} {zs : List (Addr × Ent)} {es : List Ent} (h : Ents H zs es) (k : KeepN H H') : Ents H' zs es := ⟨h.eq, fun z hz => k.tup (h.at' z hz)⟩
/-- what a value is, and stays while tuples and lists stand -/
structure RV (α : Type) where
  R : Hp → V → α → Prop
  keep : ∀ {H H' : Hp} {v : V} {a : α}, KeepN H H' → R H v a → R H' v a
def rInt : RV Int := ⟨fun _ v i => v = .int i, fun _ h => h⟩
/-- a log in a tuple -/
def rLogT : RV (List Ent) := ⟨fun H v es => ∃ a zs, v = .ref a ∧ H a = some (.tup (refs zs)) ∧ Ents H zs es, fun k ⟨a, zs, e, h, E⟩ => ⟨a, zs, e, k.tup h, E.keepN k⟩⟩
/-- a log in a list -/
def rLogL : RV (List Ent) := ⟨fun H v es => ∃ a zs, v = .ref a ∧ H a = some (.lst (refs zs)) ∧ Ents H zs es, fun k ⟨a, zs, e, h, E⟩ => ⟨a, zs, e, k.lst h, E.keepN k⟩⟩
section
variable {α : Type} {r : RV α} {H H' : Hp} {d : Addr} {l : List (List Int × α)}
theorem paired_mono {α β : Type} {F G : α → β → Prop} {xs : List α} {ys : List β} (h : Paired F xs ys) (m : ∀ x y, F x y → G x y) : Paired G xs ys := by
  induction h with
  | nil => exact .nil
  | cons a b ih => exact .cons (m _ _ a) ih
theorem RD.keep (h : RD r.R H d l) (k : KeepN H H') (hd : ∀ o, H d = some o → H' d = some o) : RD r.R H' d l := by
  obtain ⟨lv, h1, h2⟩ := h
  exact ⟨lv, hd _ h1, paired_mono h2 fun x y z => ⟨z.1, r.keep k z.2⟩⟩
theorem RD.same (h : RD r.R H d l) (s : Same H H') : RD r.R H' d l := h.keep (.of s) (s d)
theorem RD.dT (h : RD r.R H d l) : ∃ kvs, H d = some (.dT kvs) := let ⟨lv, h, _⟩ := h; ⟨_, h⟩
theorem RD.get (h : RD r.R H d l) {q : Addr} {k : List Int} (hq : H q = some (.tup (k.map V.int))) : (getR l k = none ∧ DGet H d (.ref q) none) ∨ ∃ v a, getR l k = some a ∧ r.R H v a ∧ DGet H d (.ref q) (some v) := by
  obtain ⟨lv, h1, h2⟩ := h
  have g := DGet.t (k := row k) h1 (show H q = some (.tup ((row k).map kV)) by rw [row_kV]; exact hq)
  rw [val_rows] at g
  rcases pair_val h2 k with ⟨e1, e2⟩ | ⟨v, a, e1, e2, e3⟩
  · rw [e1] at g; exact .inl ⟨e2, g⟩
  · rw [e1] at g; exact .inr ⟨v, a, e2, e3, g⟩
theorem RD.len (h : RD r.R H d l) : ∀ lv, H d = some (.dT (rowsKV lv)) → Paired (fun (p : List Int × V) (q : List Int × α) => p.1 = q.1 ∧ r.R H p.2 q.2) lv l → (rowsKV lv).length = l.length := fun lv _ h2 => by rw [List.length_map]; exact Paired.length h2
theorem RD.put (h : RD r.R H d l) {q : Addr} {k : List Int} {v : V} {a : α} (hq : H q = some (.tup (k.map V.int))) (hv : r.R H v a) (hl : l.length ≤ 4000) : ∃ o, DPut H d (.ref q) v (upd H d o) ∧ RD r.R (upd H d o) d (putR l k a) ∧ KeepN H (upd H d o) := by
  obtain ⟨lv, h1, h2⟩ := h
  have hz : (rowsKV lv).length = l.length := by rw [List.length_map]; exact Paired.length h2
  have g := DPut.t (k := row k) (v := v) h1 (show H q = some (.tup ((row k).map kV)) by rw [row_kV]; exact hq) (by rw [hz]; exact big hl)
  rw [put_rows] at g
  have kp : KeepN H (upd H d (.dT (rowsKV (putK lv k v)))) := KeepN.up h1
  exact ⟨_, g, ⟨_, upd_same, paired_mono (pair_put h2 k hv) fun x y z => ⟨z.1, r.keep kp z.2⟩⟩, kp⟩
end
/-! ### getR, putR -/
section
variable {α : Type}
def keysR (l : List (List Int × α)) : List (List Int) := l.map (·.1)
theorem getR_none {l : List (List Int × α)} {k : List Int} : getR l k = none ↔ k ∉ keysR l := by
  unfold getR keysR
  rw [Option.map_eq_none_iff, List.find?_eq_none, List.mem_map]
  exact ⟨fun h ⟨x, h1, h2⟩ => h x h1 (decide_eq_true h2), fun h x hx z => h ⟨x, hx, of_decide_eq_true z⟩⟩
theorem any_keys {l : List (List Int × α)} {k : List Int} : (l.any fun e => decide (e.1 = k)) = decide (k ∈ keysR l) := by
  rw [Bool.eq_iff_iff, List.any_eq_true, decide_eq_true_eq]
  unfold keysR
  rw [List.mem_map]
  exact ⟨fun ⟨x, h1, h2⟩ => ⟨x, h1, of_decide_eq_true h2⟩, fun ⟨x, h1, h2⟩ => ⟨x, h1, decide_eq_true h2⟩⟩
theorem putR_new {l : List (List Int × α)} {k : List Int} {a : α} (h : k ∉ keysR l) : putR l k a = l ++ [(k, a)] := by
  unfold putR
  rw [any_keys, decide_eq_false h, if_neg Bool.false_ne_true]
theorem putR_keys {l : List (List Int × α)} {k : List Int} {a : α} : ∀ x, x ∈ keysR (putR l k a) ↔ x ∈ keysR l ∨ x = k := fun x => by
  unfold putR
  rw [any_keys]
  by_cases h : k ∈ keysR l
  · rw [decide_eq_true h, if_pos rfl]
    have e : keysR (l.map fun e => if e.1 = k then (e.1, a) else e) = keysR l := by
      unfold keysR
      rw [List.map_map]
      refine List.map_congr_left fun y _ => ?_
      show (if y.1 = k then (y.1, a) else y).1 = y.1
      split <;> rfl
    rw [e]
    exact ⟨.inl, fun z => z.elim id fun z => z ▸ h⟩
  · rw [decide_eq_false h, if_neg Bool.false_ne_true]
    unfold keysR
    rw [List.map_append, List.mem_append]
    simp
theorem putR_len {l : List (List Int × α)} {k : List Int} {a : α} : (putR l k a).length ≤ l.length + 1 := by
  unfold putR
  split
  · rw [List.length_map]; omega
  · rw [List.length_append]; exact Nat.le_refl _
end
end K49
namespace K49
open PySem L2
/-! ### what items mean, in plain words -/
abbrev Item := List Int × List Int
structure MSt where
  found : List (List Int × Int)
  logs : List (List Int × List Ent)
  count : Int
def goodF (r v : List Int) : Bool := decide (RefOk r) && (decide (v.length = 8) && (decide (num v < NAMES) && ownOk r (num v)))
def goodL (r v : List Int) : Bool := decide (RefOk r) && arLog v
def stepM (s : MSt) (it : Item) : Option MSt :=
  match it.1 with
  | [] => none
  | x :: r =>
    if x = 82 then (if goodF r it.2 = true then some { s with found := putR s.found r (num it.2) } else none)
    else if x = 76 then
      (if r = [] then (if it.2.length = 8 then some { s with count := num it.2 } else none)
       else if goodL r it.2 = true then some { s with logs := putR s.logs r (logOf (it.2.length / 26) it.2) } else none)
    else some s
def runM : MSt → List Item → List Int ⊕ MSt
  | s, [] => .inr s
  | s, it :: r => match stepM s it with
    | some s' => runM s' r
    | none => .inl it.1
def m0 : MSt := ⟨[], [], 0⟩
theorem runM_app (xs ys : List Item) : ∀ s : MSt, runM s (xs ++ ys) = match runM s xs with | .inl k => .inl k | .inr s' => runM s' ys := by
  induction xs with
  | nil => intro s; rfl
  | cons it r ih =>
    intro s
    rw [List.cons_append, runM, runM]
    cases stepM s it with
    | none => rfl
    | some s' => exact ih s'
theorem runM_take {its : List Item} {i : Nat} {it : Item} {s : MSt} (h : runM m0 (its.take i) = .inr s) (hi : its[i]? = some it) : (∀ s', stepM s it = some s' → runM m0 (its.take (i + 1)) = .inr s') ∧ (stepM s it = none → runM m0 its = .inl it.1) := by
  have e1 : its.take (i + 1) = its.take i ++ [it] := by rw [List.take_succ, hi]; rfl
  have e2 : its = its.take i ++ (it :: its.drop (i + 1)) := by
    obtain ⟨hl, he⟩ := List.getElem?_eq_some_iff.mp hi
    rw [← he, ← List.drop_eq_getElem_cons hl, List.take_append_drop]
  constructor
  · intro s' hs
    rw [e1, runM_app, h]
    show runM s [it] = _
    rw [runM, hs]
    rfl
  · intro hs
    rw [e2, runM_app, h]
    show runM s (it :: _) = _
    rw [runM, hs]
/-- the refs that are asked -/
def keysM (s : MSt) : List (List Int) := keysR s.found ++ (keysR s.logs).filter fun k => decide (k ∉ keysR s.found)
open Classical in
noncomputable def refBad (s : MSt) (r : List Int) : Bool := match getR s.found r, getR s.logs r with
  | some p, some es => !isLogP es p s.count
  | _, _ => true
noncomputable def firstBad (s : MSt) : Option (List Int) := (sortRows (keysM s)).find? (refBad s)
noncomputable def meaning (its : List Item) : List Int ⊕ MSt := match runM m0 its with
  | .inl k => .inl k
  | .inr s => match firstBad s with
    | some r => .inl (76 :: r)
    | none => .inr s
/-! ### what is told, as data -/
def plD : Option Int → PyData
  | none => .none
  | some i => .int i
def rowD (ns : List Int) : PyData := .tuple (ns.map .int)
def entD (e : Ent) : PyData := .tuple [.int e.1, plD e.2.1, plD e.2.2]
def logD (es : List Ent) : PyData := .tuple (es.map entD)
def sortK {α : Type} (l : List (List Int × α)) : List (List Int × α) := l.mergeSort fun a b => rowLe a.1 b.1
def foundD (l : List (List Int × Int)) : PyData := .tuple ((sortK l).map fun e => .tuple [rowD e.1, .int e.2])
def logsD (l : List (List Int × List Ent)) : PyData := .tuple ((sortK l).map fun e => .tuple [rowD e.1, logD e.2])
def toldD (s : MSt) : PyData := .tuple [foundD s.found, logsD s.logs, .int s.count]
theorem dp_pl {K : PySem.W.Frag} {H : Hp} (p : Option Int) : Dp K H (plV p) (plD p) := by
  cases p with
  | none => exact .non
  | some i => exact .int i
theorem dp_ent {K : PySem.W.Frag} {H : Hp} {a : Addr} {e : Ent} (h : H a = some (.tup (entV e))) : Dp K H (.ref a) (entD e) := .tup (SqT.of h) (.cons (.int _) (.cons (dp_pl _) (.cons (dp_pl _) .nil)))
theorem dp_ents {K : PySem.W.Frag} {H : Hp} : ∀ (zs : List (Addr × Ent)), (∀ z ∈ zs, H z.1 = some (.tup (entV z.2))) → DpAll K H (refs zs) ((zs.map (·.2)).map entD)
  | [], _ => .nil
  | z :: zs, h => .cons (dp_ent (h z (List.mem_cons_self ..))) (dp_ents zs fun y hy => h y (List.mem_cons_of_mem _ hy))
theorem dp_log {K : PySem.W.Frag} {H : Hp} {a : Addr} {zs : List (Addr × Ent)} {es : List Ent} (h : H a = some (.tup (refs zs))) (E : Ents H zs es) : Dp K H (.ref a) (logD es) := by
  refine .tup (SqT.of h) ?_
  rw [← E.eq]
  exact dp_ents zs E.at'
/-! ### rows in order -/
theorem keysR_sortK {α : Type} (l : List (List Int × α)) : keysR (sortK l) = sortRows (keysR l) := PySem.W.sort_maps (fun e : List Int × α => e.1) fun a _ b _ => rfl
theorem sortK_perm {α : Type} {l m : List (List Int × α)} (h : l.Perm m) (nd : (keysR l).Nodup) : sortK l = sortK m := by
  have p1 : (sortK l).Perm (sortK m) := (List.mergeSort_perm l _).trans (h.trans (List.mergeSort_perm m _).symm)
  have s1 : ∀ l : List (List Int × α), (sortK l).Pairwise (fun a b => rowLe a.1 b.1 = true) := fun l => PySem.W.sort_pairwise (le := fun a b : List Int × α => rowLe a.1 b.1) ⟨fun a b c h1 h2 => rowLe_total.trans _ _ _ h1 h2, fun a b => rowLe_total.total _ _⟩ l
  refine List.Perm.eq_of_pairwise (le := fun a b : List Int × α => rowLe a.1 b.1 = true) ?_ (s1 l) (s1 m) p1
  intro a b ha hb h1 h2
  have hk : a.1 = b.1 := rowLe_anti h1 h2
  have ha' := List.mem_mergeSort.mp ha
  have hb' := h.mem_iff.mpr (List.mem_mergeSort.mp hb)
  have inj : ∀ (l : List (List Int × α)), (keysR l).Nodup → ∀ a ∈ l, ∀ b ∈ l, a.1 = b.1 → a = b := by
    intro l
    induction l with
    | nil => intro _ a ha; cases ha
    | cons x l ih =>
      intro nd a ha b hb e
      have nd' : x.1 ∉ keysR l ∧ (keysR l).Nodup := List.nodup_cons.mp nd
      rcases List.mem_cons.mp ha with ea | ha2
      · rcases List.mem_cons.mp hb with eb | hb2
        · rw [ea, eb]
        · exact (nd'.1 (List.mem_map.mpr ⟨b, hb2, by rw [← ea]; exact e.symm⟩)).elim
      · rcases List.mem_cons.mp hb with eb | hb2
        · exact (nd'.1 (List.mem_map.mpr ⟨a, ha2, by rw [← eb]; exact e⟩)).elim
        · exact ih nd'.2 a ha2 b hb2 e
  exact inj l nd a ha' b hb' hk
end K49
namespace K49
open PySem L2
/-! ### what stands while items are looked at -/
abbrev ItOk (it : Item) : Prop := it.1 ≠ [] ∧ Octs it.1 ∧ Octs it.2 ∧ it.1.length ≤ 60 ∧ it.2.length ≤ 1560
theorem putR_nodup {α : Type} {l : List (List Int × α)} {k : List Int} {a : α} (h : (keysR l).Nodup) : (keysR (putR l k a)).Nodup := by
  unfold putR
  rw [any_keys]
  by_cases c : k ∈ keysR l
  · rw [decide_eq_true c, if_pos rfl]
    have e : keysR (l.map fun e => if e.1 = k then (e.1, a) else e) = keysR l := by
      unfold keysR
      rw [List.map_map]
      refine List.map_congr_left fun y _ => ?_
      show (if y.1 = k then (y.1, a) else y).1 = y.1
      split <;> rfl
    rw [e]
    exact h
  · rw [decide_eq_false c, if_neg Bool.false_ne_true]
    have e : keysR (l ++ [(k, a)]) = keysR l ++ [k] := List.map_append
    rw [e, List.nodup_append]
    refine ⟨h, (List.pairwise_singleton _ k), fun x hx y hy z => ?_⟩
    rw [List.mem_singleton.mp hy] at z
    exact c (z ▸ hx)
structure MOk (s : MSt) (n : Nat) : Prop where
  lf : s.found.length ≤ n
  ll : s.logs.length ≤ n
  nf : (keysR s.found).Nodup
  nl : (keysR s.logs).Nodup
  rf : ∀ r ∈ keysR s.found, RefOk r
  rl : ∀ r ∈ keysR s.logs, RefOk r
theorem m0_ok : MOk m0 0 := ⟨Nat.le_refl _, Nat.le_refl _, List.nodup_nil, List.nodup_nil, (fun r h => by cases h), (fun r h => by cases h)⟩
theorem MOk.step {s s' : MSt} {n : Nat} {it : Item} (M : MOk s n) (h : stepM s it = some s') : MOk s' (n + 1) := by
  have up : MOk s (n + 1) := ⟨Nat.le_succ_of_le M.lf, Nat.le_succ_of_le M.ll, M.nf, M.nl, M.rf, M.rl⟩
  unfold stepM at h
  split at h
  · cases h
  · rename_i x r e
    split at h
    · split at h
      · rename_i hg
        cases h
        have hr : RefOk r := by
          unfold goodF at hg
          rw [Bool.and_eq_true] at hg
          exact of_decide_eq_true hg.1
        refine ⟨Nat.le_trans putR_len (Nat.succ_le_succ M.lf), up.ll, putR_nodup M.nf, M.nl, fun q hq => ?_, M.rl⟩
        rcases (putR_keys q).mp hq with hq | rfl
        · exact M.rf q hq
        · exact hr
      · cases h
    · split at h
      · split at h
        · split at h
          · cases h
            exact ⟨up.lf, up.ll, M.nf, M.nl, M.rf, M.rl⟩
          · cases h
        · split at h
          · rename_i hg
            cases h
            have hr : RefOk r := by
              unfold goodL at hg
              rw [Bool.and_eq_true] at hg
              exact of_decide_eq_true hg.1
            refine ⟨up.lf, Nat.le_trans putR_len (Nat.succ_le_succ M.ll), M.nf, putR_nodup M.nl, M.rf, fun q hq => ?_⟩
            rcases (putR_keys q).mp hq with hq | rfl
            · exact M.rl q hq
            · exact hr
          · cases h
      · cases h
        exact up
/-! ### the steps, told apart -/
section
variable {s : MSt} {r v : List Int} {x : Int}
theorem step_f (h : goodF r v = true) : stepM s (82 :: r, v) = some { s with found := putR s.found r (num v) } := by simp [stepM, h]
theorem step_fn (h : ¬ goodF r v = true) : stepM s (82 :: r, v) = none := by simp [stepM, h]
theorem step_c (h : v.length = 8) : stepM s ([76], v) = some { s with count := num v } := by simp [stepM, h]
theorem step_cn (h : ¬ v.length = 8) : stepM s ([76], v) = none := by simp [stepM, h]
theorem step_l (hr : r ≠ []) (h : goodL r v = true) : stepM s (76 :: r, v) = some { s with logs := putR s.logs r (logOf (v.length / 26) v) } := by simp [stepM, h, hr]
theorem step_ln (hr : r ≠ []) (h : ¬ goodL r v = true) : stepM s (76 :: r, v) = none := by simp [stepM, h, hr]
theorem step_o (h1 : x ≠ 82) (h2 : x ≠ 76) : stepM s (x :: r, v) = some s := by simp [stepM, h1, h2]
end
theorem goodF_n1 {r v : List Int} (h : ¬ RefOk r) : ¬ goodF r v = true := fun z => by
  unfold goodF at z
  rw [decide_eq_false h, Bool.false_and] at z
  cases z
theorem goodF_n2 {r v : List Int} (h : ¬ v.length = 8) : ¬ goodF r v = true := fun z => by
  unfold goodF at z
  rw [decide_eq_false h, Bool.false_and, Bool.and_false] at z
  cases z
theorem goodF_n3 {r v : List Int} (h : ¬ num v < NAMES) : ¬ goodF r v = true := fun z => by
  unfold goodF at z
  rw [decide_eq_false h, Bool.false_and, Bool.and_false, Bool.and_false] at z
  cases z
theorem goodF_n4 {r v : List Int} (h : ownOk r (num v) = false) : ¬ goodF r v = true := fun z => by
  unfold goodF at z
  rw [h, Bool.and_false, Bool.and_false, Bool.and_false] at z
  cases z
theorem goodF_y {r v : List Int} (h1 : RefOk r) (h2 : v.length = 8) (h3 : num v < NAMES) (h4 : ownOk r (num v) = true) : goodF r v = true := by
  unfold goodF
  rw [decide_eq_true h1, decide_eq_true h2, decide_eq_true h3, h4]
  rfl
/-! ### the keys of two dicts, merged -/
theorem putK_keys {κ : Type} [DecidableEq κ] (l : List (κ × V)) (k : κ) (v : V) : (putK l k v).map (·.1) = if k ∈ l.map (·.1) then l.map (·.1) else l.map (·.1) ++ [k] := by
  unfold putK
  have e0 : (l.any fun kv => decide (kv.1 = k)) = decide (k ∈ l.map (·.1)) := by
    rw [Bool.eq_iff_iff, List.any_eq_true, decide_eq_true_eq, List.mem_map]
    exact ⟨fun ⟨x, h1, h2⟩ => ⟨x, h1, of_decide_eq_true h2⟩, fun ⟨x, h1, h2⟩ => ⟨x, h1, decide_eq_true h2⟩⟩
  rw [e0]
  by_cases c : k ∈ l.map (·.1)
  · rw [decide_eq_true c, if_pos rfl, if_pos c, List.map_map]
    refine List.map_congr_left fun y _ => ?_
    show (if y.1 = k then (y.1, v) else y).1 = y.1
    split <;> rfl
  · rw [decide_eq_false c, if_neg Bool.false_ne_true, if_neg c, List.map_append]
    rfl
theorem mergeT_keys : ∀ (more kvs : List (List Key × V)), (kvs.map (·.1)).Nodup → ((mergeT kvs more).map (·.1)).Nodup ∧ ∀ x, x ∈ (mergeT kvs more).map (·.1) ↔ x ∈ kvs.map (·.1) ∨ x ∈ more.map (·.1)
  | [], kvs, h => ⟨h, fun x => ⟨.inl, fun z => Or.elim z id fun z => by cases z⟩⟩
  | p :: more, kvs, h => by
    have hk := putK_keys kvs p.1 p.2
    have h' : ((putK kvs p.1 p.2).map (·.1)).Nodup ∧ ∀ x, x ∈ (putK kvs p.1 p.2).map (·.1) ↔ x ∈ kvs.map (·.1) ∨ x = p.1 := by
      rw [hk]
      by_cases c : p.1 ∈ kvs.map (·.1)
      · rw [if_pos c]
        exact ⟨h, fun x => ⟨.inl, fun z => Or.elim z id fun z => z ▸ c⟩⟩
      · rw [if_neg c]
        refine ⟨?_, fun x => by rw [List.mem_append, List.mem_singleton]⟩
        rw [List.nodup_append]
        refine ⟨h, (List.pairwise_singleton _ _), fun x hx y hy z => ?_⟩
        rw [List.mem_singleton.mp hy] at z
        exact c (z ▸ hx)
    obtain ⟨h1, h2⟩ := mergeT_keys more _ h'.1
    refine ⟨h1, fun x => ?_⟩
    show x ∈ (mergeT (putK kvs p.1 p.2) more).map (·.1) ↔ _
    rw [h2, h'.2, List.map_cons, List.mem_cons, or_assoc]
theorem merged_rows (lv : List (List Int × V)) (lw : List (List Int × V)) : ∃ ns : List (List Int), (mergeT [] (rowsKV lv ++ rowsKV lw)).map (·.1) = ns.map row ∧ ns.Nodup ∧ ∀ x, x ∈ ns ↔ x ∈ lv.map (·.1) ∨ x ∈ lw.map (·.1) := by
  obtain ⟨h1, h2⟩ := mergeT_keys (rowsKV lv ++ rowsKV lw) [] List.nodup_nil
  generalize (mergeT [] (rowsKV lv ++ rowsKV lw)).map (·.1) = ks at h1 h2
  have hk : ∀ x, x ∈ ks ↔ ∃ n, (n ∈ lv.map (·.1) ∨ n ∈ lw.map (·.1)) ∧ row n = x := fun x => by
    rw [h2]
    constructor
    · intro h
      rcases h with h | h
      · cases h
      · obtain ⟨e, he, rfl⟩ := List.mem_map.mp h
        rcases List.mem_append.mp he with he | he
        · obtain ⟨y, hy, rfl⟩ := List.mem_map.mp he
          exact ⟨y.1, .inl (List.mem_map.mpr ⟨y, hy, rfl⟩), rfl⟩
        · obtain ⟨y, hy, rfl⟩ := List.mem_map.mp he
          exact ⟨y.1, .inr (List.mem_map.mpr ⟨y, hy, rfl⟩), rfl⟩
    · rintro ⟨n, hn, rfl⟩
      refine .inr (List.mem_map.mpr ?_)
      rcases hn with hn | hn
      · obtain ⟨y, hy, rfl⟩ := List.mem_map.mp hn
        exact ⟨(row y.1, y.2), List.mem_append_left _ (List.mem_map.mpr ⟨y, hy, rfl⟩), rfl⟩
      · obtain ⟨y, hy, rfl⟩ := List.mem_map.mp hn
        exact ⟨(row y.1, y.2), List.mem_append_right _ (List.mem_map.mpr ⟨y, hy, rfl⟩), rfl⟩
  refine ⟨ks.map (·.map kInt), ?_, ?_, ?_⟩
  · rw [List.map_map]
    symm
    refine (List.map_congr_left fun x hx => ?_).trans (List.map_id ks)
    obtain ⟨n, _, rfl⟩ := (hk x).mp hx
    show row ((row n).map kInt) = row n
    rw [row_kInt]
  · refine nodup_of_row ?_
    rw [List.map_map]
    have : ks.map (row ∘ fun x => x.map kInt) = ks := (List.map_congr_left fun x hx => by
      obtain ⟨n, _, rfl⟩ := (hk x).mp hx
      show row ((row n).map kInt) = row n
      rw [row_kInt]).trans (List.map_id ks)
    rw [this]
    exact h1
  · intro x
    rw [List.mem_map]
    constructor
    · rintro ⟨k, hk', rfl⟩
      obtain ⟨n, hn, rfl⟩ := (hk k).mp hk'
      rw [row_kInt]
      exact hn
    · intro hx
      exact ⟨row x, (hk _).mpr ⟨x, hx, rfl⟩, row_kInt x⟩
theorem keysM_nodup {s : MSt} {n : Nat} (M : MOk s n) : (keysM s).Nodup := by
  unfold keysM
  rw [List.nodup_append]
  refine ⟨M.nf, M.nl.filter _, fun x hx y hy z => ?_⟩
  subst z
  exact of_decide_eq_true (List.mem_filter.mp hy).2 hx
theorem keysM_mem {s : MSt} (x : List Int) : x ∈ keysM s ↔ x ∈ keysR s.found ∨ x ∈ keysR s.logs := by
  unfold keysM
  rw [List.mem_append, List.mem_filter]
  by_cases h : x ∈ keysR s.found
  · exact ⟨fun _ => .inl h, fun _ => .inl h⟩
  · exact ⟨fun z => Or.elim z .inl fun z => .inr z.1, fun z => Or.elim z .inl fun z => .inr ⟨z, decide_eq_true h⟩⟩
end K49
namespace K49
open PySem L2
/-! ### refs_meaning -/
abbrev sRM : Stmt := topS 36
abbrev nRM : List Str := ["items", "found", "logs", "count", "key", "value", "ref"]
/-- pairs of rows at the addresses of zs -/
structure ItemsAt (H : Hp) (zs : List (Addr × Item)) (its : List Item) : Prop where
  eq : zs.map (·.2) = its
  at' : ∀ z ∈ zs, ∃ q1 q2, H z.1 = some (.tup [.ref q1, .ref q2]) ∧ H q1 = some (.tup (z.2.1.map V.int)) ∧ H q2 = some (.tup (z.2.2.map V.int))
theorem ItemsAt.keepN {H H' : Hp} {zs : List (Addr × Item)} {its : List Item} (h : ItemsAt H zs its) (k : KeepN H H') : ItemsAt H' zs its := ⟨h.eq, fun z hz => by
  obtain ⟨q1, q2, h1, h2, h3⟩ := h.at' z hz
  exact ⟨q1, q2, k.tup h1, k.tup h2, k.tup h3⟩⟩
theorem ItemsAt.keep {H H' : Hp} {zs : List (Addr × Item)} {its : List Item} (h : ItemsAt H zs its) (s : Same H H') : ItemsAt H' zs its := h.keepN (.of s)
theorem ItemsAt.len {H : Hp} {zs : List (Addr × Item)} {its : List Item} (h : ItemsAt H zs its) : zs.length = its.length := by rw [← h.eq, List.length_map]
theorem ItemsAt.of {H : Hp} {zs : List (Addr × Item)} {its : List Item} (h : ItemsAt H zs its) {i : Nat} {v : V} (hv : (refs zs)[i]? = some v) : ∃ a it q1 q2, v = .ref a ∧ its[i]? = some it ∧ zs[i]? = some (a, it) ∧ H a = some (.tup [.ref q1, .ref q2]) ∧ H q1 = some (.tup (it.1.map V.int)) ∧ H q2 = some (.tup (it.2.map V.int)) := by
  rw [List.getElem?_map] at hv
  cases hz : zs[i]? with
  | none => rw [hz] at hv; cases hv
  | some z =>
    rw [hz] at hv
    cases hv
    obtain ⟨q1, q2, h1, h2, h3⟩ := h.at' z (List.mem_of_getElem? hz)
    exact ⟨z.1, z.2, q1, q2, rfl, by rw [← h.eq, List.getElem?_map, hz]; rfl, rfl, h1, h2, h3⟩
/-- items in their order in a tuple or list -/
def spRM (K : PySem.W.Frag) (CB : Addr) : Sp := fun vs H Q E => ∃ (a : Addr) (zs : List (Addr × Item)) (its : List Item), vs = [.ref a] ∧ H a = some (.tup (refs zs)) ∧ ItemsAt H zs its ∧ its.length ≤ 60 ∧ (∀ it ∈ its, ItOk it) ∧
  (∀ k, meaning its = .inl k → ∀ (q d : Addr) H', Same H H' → H' q = some (.tup (k.map V.int)) → H' d = none → E (.ref CB) (some d) (upd H' d (.xd [(fAt, .ref q)]))) ∧
  (∀ s n, meaning its = .inr s → MOk s n → n ≤ 60 → ∀ p H', Same H H' → Dp K H' (.ref p) (toldD s) → Q (.ref p) H')
theorem c_tupleK {X : Cx} {K : PySem.W.Frag} {e : Expr} {te : TE} {p pos : Pos} (h : X.K = K) (B : Blt X.mg) (he : PE X e te) (hg : Gl X "tuple" := by rfl) (h1 : starEach (e :: []) X.env = (false, eval e X.env) :: starEach [] X.env := by rfl) (h2 : (backTo pos (starEach [] X.env)).any (·.1) = false := by rfl) :
    PE X (.Call (.Name "tuple" p) [e] [] pos) (tCB (fun xs H Q => ∃ p ys, xs = [.ref p] ∧ ((SqL K H p ys ∧ ∀ l, H l = none → Q (.ref l) (upd H l (.tup ys))) ∨ (SqT K H p ys ∧ Q (.ref p) H))) (tCons te tNil)) := by
  subst h
  exact c_tuple B he hg h1 h2
theorem tailV (x : Int) (r : List Int) : cutV ((x :: r).map V.int) (some 1) none = r.map V.int := by
  rw [show (some (1 : Int)) = some ((1 : Nat) : Int) from rfl, cut_lo, ← List.map_drop]
  rfl
section
variable {P : Program} {w : World} {K : PySem.W.Frag} {mg : Str → Option Value} {base : Heap}
theorem scRM : FnScope nRM ["items"] (defScope sRM) := ⟨rfl, rfl, rfl, by decide +kernel, rfl, by decide +kernel, by decide +kernel⟩
abbrev XRM (P : Program) (w : World) (K : PySem.W.Frag) (mg : Str → Option Value) (base : Heap) (f : Addr) (cdv : Value) (A : Around) (outer : List Env) (s : Shared) (H : Hp) (E : XK) : Cx := cxOf (L2.CX P w) P w K mg base nRM "refs_meaning" (defScope sRM) f cdv A outer s H E
/-- the body of the first loop -/
def forB : Stmt → List Stmt
  | .For _ _ b _ _ => b
  | _ => []
def ifB : Stmt → List Stmt
  | .If _ b _ _ => b
  | _ => []
def ifE : Stmt → List Stmt
  | .If _ _ e _ => e
  | _ => []
def hd : List Stmt → Stmt
  | s :: _ => s
  | [] => .Pass ⟨0, 0, 0, 0⟩
abbrev bRM1 : List Stmt := forB (hd ((defBody sRM).drop 1))
def Fr2 (a b : Addr) (H H' : Hp) : Prop := ∀ c o, H c = some o → c ≠ a → c ≠ b → H' c = some o
theorem Fr2.of {a b : Addr} {H H' : Hp} (x : Same H H') : Fr2 a b H H' := fun c o h _ _ => x c o h
theorem Fr2.trans {a b : Addr} {H H1 H2 : Hp} (x : Fr2 a b H H1) (y : Fr2 a b H1 H2) : Fr2 a b H H2 := fun c o h n m => y c o (x c o h n m) n m
theorem Fr2.up1 {a b : Addr} {H : Hp} {o : HO} : Fr2 a b H (upd H a o) := fun c u h n _ => by rw [upd_ne n]; exact h
theorem Fr2.up2 {a b : Addr} {H : Hp} {o : HO} : Fr2 a b H (upd H b o) := fun c u h _ n => by rw [upd_ne n]; exact h
/-- what the second half of the loop's body does -/
def step2 (s : MSt) (it : Item) : Option MSt :=
  match it.1 with
  | [] => none
  | x :: r =>
    if x = 76 then
      (if r = [] then (if it.2.length = 8 then some { s with count := num it.2 } else none)
       else if goodL r it.2 = true then some { s with logs := putR s.logs r (logOf (it.2.length / 26) it.2) } else none)
    else some s
theorem step2_o {s : MSt} {x : Int} {r v : List Int} (h : x ≠ 76) : step2 s (x :: r, v) = some s := by simp [step2, h]
theorem step2_M {s : MSt} {x : Int} {r v : List Int} (h : x ≠ 82) : stepM s (x :: r, v) = step2 s (x :: r, v) := by
  unfold stepM step2
  simp only
  rw [if_neg h]
theorem step2_c {s : MSt} {v : List Int} (h : v.length = 8) : step2 s ([76], v) = some { s with count := num v } := by rw [← step2_M (by decide)]; exact step_c h
theorem step2_cn {s : MSt} {v : List Int} (h : ¬ v.length = 8) : step2 s ([76], v) = none := by rw [← step2_M (by decide)]; exact step_cn h
theorem step2_l {s : MSt} {r v : List Int} (hr : r ≠ []) (h : goodL r v = true) : step2 s (76 :: r, v) = some { s with logs := putR s.logs r (logOf (v.length / 26) v) } := by rw [← step2_M (by decide)]; exact step_l hr h
theorem step2_ln {s : MSt} {r v : List Int} (hr : r ≠ []) (h : ¬ goodL r v = true) : step2 s (76 :: r, v) = none := by rw [← step2_M (by decide)]; exact step_ln hr h
structure RMs (P : Program) (w : World) (K : PySem.W.Frag) (mg : Str → Option Value) (base : Heap) (CB fI : Addr) : Prop where
  B : Blt mg
  C : Cst mg
  R : PySem.KwE.ErrTxt P K mg "Broken" CB fI
  dict : mg "dict" = none
  ref : Ok P w K mg base CX0 5 "is_ref" ["value"] spRef
  num : Ok P w K mg base CX0 5 "octets_number" ["octets"] spON
  own : Ok P w K mg base CX0 6 "is_own_place" ["ref", "place"] spOwn
  al : Ok P w K mg base CX0 8 "are_log_octets" ["value"] spAL
  ol : Ok P w K mg base CX0 7 "octets_log" ["octets"] spOL
  lg : ∃ (f : Addr) (fd : FuncData), Fun K "is_log" "is_log" sLg f fd ∧ mg "is_log" = some (.ref f) ∧ PySem.W.keepIn K (.ref f) = true ∧ Binds K fd ["log", "now", "count"] []
  en : mg "enumerate" = none
abbrev σM (v0 : V) (d1 d2 qk qv : Addr) (c : Int) (x6 : Option V) : St := [some v0, some (.ref d1), some (.ref d2), some (.int c), some (.ref qk), some (.ref qv), x6]
theorem rm_b2 {f : Addr} {cdv : Value} {A : Around} {outer : List Env} {s0 : Shared} {H0 : Hp} {E : XK} {CB fI : Addr} (T : RMs P w K mg base CB fI) (hr : Room 8 (XRM P w K mg base f cdv A outer s0 H0 E).A) :
    ∃ t, PSs (XRM P w K mg base f cdv A outer s0 H0 E) (bRM1.drop 1) t ∧ ∀ (D : Ends) (H : Hp) (v0 : V) (d1 d2 qk qv : Addr) (s : MSt) (n : Nat) (it : Item) (x6 : Option V), ItOk it → s.logs.length ≤ n → n ≤ 100 →
      RD rLogT.R H d2 s.logs → H qk = some (.tup (it.1.map V.int)) → H qv = some (.tup (it.2.map V.int)) →
      (step2 s it = none → ∀ (d : Addr) H', Same H H' → H' d = none → E (.ref CB) (some d) (upd H' d (.xd [(fAt, .ref qk)]))) →
      (∀ s', step2 s it = some s' → s'.found = s.found ∧ ∀ H', Fr2 d1 d2 H H' → KeepN H H' → (∀ o, d1 ≠ d2 → H d1 = some o → H' d1 = some o) → RD rLogT.R H' d2 s'.logs → D.nx (σM v0 d1 d2 qk qv s'.count x6) H') →
      t D (σM v0 d1 d2 qk qv s.count x6) H := by
  obtain ⟨B, C, R, _, Oref, Onum, Oown, Oal, Ool, _, _⟩ := T
  have hu := hu_of hr
  refine ⟨_, (pss_one (ps_if (pt_cmpR (op_eqD hr.units) (pv 4) (pe_tup (pa_cons (c_c C.logk) pa_nil)) (nomark _))
      (pss_cons (ps_if (pt_cmpR op_ne (c_len B (pv 5)) (c_c C.width) (nomark _)) (pss_one (ps_raiseE rfl R hr (takes_of rfl rfl rfl rfl) (pa_cons (pv 4) pa_nil))) pss_nil)
        (pss_one (ps_set (i := 3) scRM.nd rfl (.inl rfl) (c_fn Onum hr (pa_cons (pv 5) pa_nil)))))
      (pss_one (ps_if (pt_cmpR op_eq (pe_ix ix_tup (pv 4) pe_int (fun _ _ => rfl)) (c_c C.logk) (nomark _))
        (pss_cons (ps_if (PW.pt (pw_or (pt_not (pt_val (c_fn Oref hr (pa_cons (pe_slice sl_tupA (pv 4) (po_some pe_int) po_none) pa_nil)))) (pw_or1 (pt_not (pt_val (c_fn Oal hr (pa_cons (pv 5) pa_nil)))))))
          (pss_one (ps_raiseE rfl R hr (takes_of rfl rfl rfl rfl) (pa_cons (pv 4) pa_nil))) pss_nil)
        (pss_one (ps_dput hu (pv 2) (pe_slice sl_tupA (pv 4) (po_some pe_int) po_none) (c_fn Ool hr (pa_cons (pv 5) pa_nil)) rfl))) pss_nil)))), ?_⟩
  intro D H v0 d1 d2 qk qv s n it x6 hit hsn hn hd2 hk hv kb kg
  obtain ⟨key, v⟩ := it
  obtain ⟨hne, ok, ov, lk, lv⟩ := hit
  replace lk : key.length ≤ 60 := lk
  replace lv : v.length ≤ 1560 := lv
  cases key with
  | nil => exact absurd rfl hne
  | cons x r =>
  have lr : r.length ≤ 60 := by rw [List.length_cons] at lk; omega
  have or' : Octs r := fun y hy => ok y (List.mem_cons_of_mem _ hy)
  replace hk : H qk = some (.tup ((x :: r).map V.int)) := hk
  replace hv : H qv = some (.tup (v.map V.int)) := hv
  replace ov : Octs v := ov
  refine ⟨_, rfl, by decide, fun t nt => ?_⟩
  have s1 : Same H (upd H t (.tup [.int 76])) := Same.new nt
  generalize hH1 : upd H t (.tup [.int 76]) = H1 at s1 ⊢
  have ht : H1 t = some (.tup ([(76 : Int)].map V.int)) := by rw [← hH1, upd_same]; rfl
  have hk1 := s1 _ _ hk
  have hv1 := s1 _ _ hv
  refine ⟨_, _, dp_row hk1, dp_row ht, shaped_tup _, shaped_tup _, _, rfl, ?_⟩
  rw [eqv_row]
  by_cases c1 : x :: r = [76]
  · obtain ⟨rfl, rfl⟩ := List.cons.inj c1
    rw [decide_eq_true rfl]
    refine iteT ⟨_, rfl, qv, _, rfl, .inr (SqT.of hv1), rfl, _, rfl, ?_⟩
    by_cases c2 : v.length = 8
    · rw [decide_eq_true (show V.int ((v.map V.int).length : Nat) = V.int 8 by rw [List.length_map, c2]; rfl)]
      refine iteF ⟨_, rfl, qv, v, rfl, hv1, by omega, ov, fun H2 s2 => ?_⟩
      obtain ⟨_, kg'⟩ := kg _ (step2_c c2)
      exact kg' H2 (.of (s1.trans s2)) (.of (s1.trans s2)) (fun o _ => (s1.trans s2) _ _) (hd2.same (s1.trans s2))
    · rw [decide_eq_false (show ¬ V.int ((v.map V.int).length : Nat) = V.int 8 from fun z => c2 (by injection z with z; rw [List.length_map] at z; omega))]
      exact iteT ⟨_, rfl, _, rfl, fun d hd => kb (step2_cn c2) d _ s1 hd⟩
  · rw [decide_eq_false c1]
    refine iteF ⟨_, rfl, qk, _, _, .int x, rfl, rfl, SqT.of hk1, atI_nat (j := 0) rfl, rfl, _, rfl, ?_⟩
    by_cases c3 : x = 76
    · subst c3
      have hr0 : r ≠ [] := fun z => c1 (by rw [z])
      rw [decide_eq_true rfl]
      refine iteT ⟨_, rfl, _, rfl, ?_⟩
      dsimp only [tNoPart]
      refine slA_of hk1 fun q2 H2 s2 hq2 => ?_
      rw [tailV] at hq2
      refine ⟨q2, r, rfl, hq2, by omega, fun H3 s3 => ⟨_, rfl, ?_⟩⟩
      by_cases c4 : RefOk r
      · show if (!decide (RefOk r)) = true then _ else _
        rw [decide_eq_true c4]
        refine iteF ⟨_, rfl, qv, v, rfl, (s2.trans s3) _ _ hv1, lv, ov, fun H4 s4 => ⟨_, rfl, ?_⟩⟩
        have s14 := s1.trans ((s2.trans s3).trans s4)
        cases c5 : arLog v with
        | false => exact iteT ⟨_, rfl, _, rfl, fun d hd => kb (step2_ln hr0 (by unfold goodL; rw [c5, Bool.and_false]; exact Bool.false_ne_true)) d _ s14 hd⟩
        | true =>
          have hg : goodL r v = true := by unfold goodL; rw [c5, decide_eq_true c4]; rfl
          have h26 : v.length % 26 = 0 := by
            unfold arLog at c5
            rw [Bool.and_eq_true, Bool.and_eq_true] at c5
            exact of_decide_eq_true c5.2.1
          refine iteF ⟨_, rfl, qv, v, v.length / 26, rfl, s14 _ _ hv, by omega, by omega, ov, fun q5 zs5 H5 s5 hq5 hE5 => ?_⟩
          refine ⟨_, rfl, _, rfl, _, rfl, ?_⟩
          dsimp only [tNoPart]
          have s15 := s14.trans s5
          refine slA_of (s15 _ _ hk) fun q6 H6 s6 hq6 => ?_
          rw [tailV] at hq6
          have s16 := s15.trans s6
          obtain ⟨o, g, hd', kp⟩ := (hd2.same s16).put hq6 (r := rLogT) ⟨q5, zs5, rfl, s6 _ _ hq5, hE5.keep s6⟩ (by omega)
          obtain ⟨_, kg'⟩ := kg _ (step2_l hr0 hg)
          exact ⟨d2, _, rfl, g, kg' _ ((Fr2.of s16).trans Fr2.up2) ((KeepN.of s16).trans kp) (fun o hne ho => by rw [upd_ne hne]; exact s16 _ _ ho) hd'⟩
      · show if (!decide (RefOk r)) = true then _ else _
        rw [decide_eq_false c4]
        exact iteT (iteT ⟨_, rfl, _, rfl, fun d hd => kb (step2_ln hr0 (by unfold goodL; rw [decide_eq_false c4, Bool.false_and]; exact Bool.false_ne_true)) d _ (s1.trans (s2.trans s3)) hd⟩)
    · rw [decide_eq_false (fun z => c3 (by injection z))]
      obtain ⟨_, kg'⟩ := kg _ (step2_o c3)
      exact iteF (kg' _ (.of s1) (.of s1) (fun o _ => s1 _ _) (hd2.same s1))
end
end K49
namespace K49
open PySem L2
section
variable {P : Program} {w : World} {K : PySem.W.Frag} {mg : Str → Option Value} {base : Heap}
theorem rm_body {f : Addr} {cdv : Value} {A : Around} {outer : List Env} {s0 : Shared} {H0 : Hp} {E : XK} {CB fI : Addr} (T : RMs P w K mg base CB fI) (hr : Room 8 (XRM P w K mg base f cdv A outer s0 H0 E).A) :
    ∃ t, PSs (XRM P w K mg base f cdv A outer s0 H0 E) bRM1 t ∧ ∀ (D : Ends) (H : Hp) (v0 : V) (d1 d2 qk qv : Addr) (s : MSt) (n : Nat) (it : Item) (x6 : Option V), ItOk it → MOk s n → n ≤ 100 → d1 ≠ d2 →
      RD rInt.R H d1 s.found → RD rLogT.R H d2 s.logs → H qk = some (.tup (it.1.map V.int)) → H qv = some (.tup (it.2.map V.int)) →
      (stepM s it = none → ∀ (d : Addr) H', Same H H' → H' d = none → E (.ref CB) (some d) (upd H' d (.xd [(fAt, .ref qk)]))) →
      (∀ s', stepM s it = some s' → ∀ H', Fr2 d1 d2 H H' → KeepN H H' → RD rInt.R H' d1 s'.found → RD rLogT.R H' d2 s'.logs → D.nx (σM v0 d1 d2 qk qv s'.count x6) H') →
      t D (σM v0 d1 d2 qk qv s.count x6) H := by
  obtain ⟨t2, ht2, HB⟩ := rm_b2 (w := w) (base := base) (f := f) (cdv := cdv) (outer := outer) (s0 := s0) (H0 := H0) (E := E) (A := A) T hr
  obtain ⟨B, C, R, _, Oref, Onum, Oown, Oal, Ool, _, _⟩ := T
  have hu := hu_of hr
  refine ⟨_, pss_cons (ps_if (pt_cmpR op_eq (pe_ix ix_tup (pv 4) pe_int (fun _ _ => rfl)) (c_c C.refk) (nomark _))
      (pss_cons (ps_if (PW.pt (pw_or (pt_not (pt_val (c_fn Oref hr (pa_cons (pe_slice sl_tupA (pv 4) (po_some pe_int) po_none) pa_nil)))) (pw_or (pt_cmpR op_ne (c_len B (pv 5)) (c_c C.width) (nomark _)) (pw_or1 (pt_cmpR op_ge (c_fn Onum hr (pa_cons (pv 5) pa_nil)) (c_c C.names) (nomark _))))))
          (pss_one (ps_raiseE rfl R hr (takes_of rfl rfl rfl rfl) (pa_cons (pv 4) pa_nil))) pss_nil)
      (pss_cons (ps_if (pt_not (pt_val (c_fn Oown hr (pa_cons (pe_slice sl_tupA (pv 4) (po_some pe_int) po_none) (pa_cons (c_fn Onum hr (pa_cons (pv 5) pa_nil)) pa_nil)))))
          (pss_one (ps_raiseE rfl R hr (takes_of rfl rfl rfl rfl) (pa_cons (pv 4) pa_nil))) pss_nil)
      (pss_one (ps_dput hu (pv 1) (pe_slice sl_tupA (pv 4) (po_some pe_int) po_none) (c_fn Onum hr (pa_cons (pv 5) pa_nil)) rfl)))) pss_nil)
    ht2, ?_⟩
  intro D H v0 d1 d2 qk qv s n it x6 hit M hn ne hd1 hd2 hk hv kb kg
  have hit0 := hit
  obtain ⟨key, v⟩ := it
  obtain ⟨hne, ok, ov, lk, lv⟩ := hit
  replace lk : key.length ≤ 60 := lk
  replace lv : v.length ≤ 1560 := lv
  cases key with
  | nil => exact absurd rfl hne
  | cons x r =>
  have lr : r.length ≤ 60 := by rw [List.length_cons] at lk; omega
  have or' : Octs r := fun y hy => ok y (List.mem_cons_of_mem _ hy)
  replace hk : H qk = some (.tup ((x :: r).map V.int)) := hk
  replace hv : H qv = some (.tup (v.map V.int)) := hv
  replace ov : Octs v := ov
  refine ⟨_, rfl, qk, _, _, .int x, rfl, rfl, SqT.of hk, atI_nat (j := 0) rfl, rfl, _, rfl, ?_⟩
  by_cases c0 : x = 82
  · subst c0
    rw [decide_eq_true rfl]
    refine iteT ⟨_, rfl, _, rfl, ?_⟩
    dsimp only [tNoPart]
    refine slA_of hk fun q2 H2 s2 hq2 => ?_
    rw [tailV] at hq2
    refine ⟨q2, r, rfl, hq2, by omega, fun H3 s3 => ⟨_, rfl, ?_⟩⟩
    have s13 := s2.trans s3
    by_cases c1 : RefOk r
    · show if (!decide (RefOk r)) = true then _ else _
      rw [decide_eq_true c1]
      refine iteF ⟨_, rfl, qv, _, rfl, .inr (SqT.of (s13 _ _ hv)), rfl, _, rfl, ?_⟩
      by_cases c2 : v.length = 8
      · rw [decide_eq_true (show V.int ((v.map V.int).length : Nat) = V.int 8 by rw [List.length_map, c2]; rfl)]
        refine iteF ⟨_, rfl, qv, v, rfl, s13 _ _ hv, by omega, ov, fun H4 s4 => ⟨_, _, rfl, rfl, _, rfl, ?_⟩⟩
        have s14 := s13.trans s4
        by_cases c3 : NAMES ≤ num v
        · rw [decide_eq_true c3]
          exact iteT ⟨_, rfl, _, rfl, fun d hd => kb (step_fn (goodF_n3 (by omega))) d _ s14 hd⟩
        · rw [decide_eq_false c3]
          refine iteF ⟨_, rfl, _, rfl, ?_⟩
          dsimp only [tNoPart]
          refine slA_of (s14 _ _ hk) fun q5 H5 s5 hq5 => ?_
          rw [tailV] at hq5
          have s15 := s14.trans s5
          refine ⟨_, rfl, qv, v, rfl, s15 _ _ hv, by omega, ov, fun H6 s6 => ?_⟩
          refine ⟨q5, r, num v, rfl, s6 _ _ hq5, lr, or', fun H7 s7 => ⟨_, rfl, ?_⟩⟩
          have s17 := (s15.trans s6).trans s7
          cases c4 : ownOk r (num v) with
          | false => exact iteT ⟨_, rfl, _, rfl, fun d hd => kb (step_fn (goodF_n4 c4)) d _ s17 hd⟩
          | true =>
            have hg := goodF_y c1 c2 (by omega) c4
            refine iteF ⟨_, rfl, qv, v, rfl, s17 _ _ hv, by omega, ov, fun H8 s8 => ?_⟩
            refine ⟨_, rfl, _, rfl, _, rfl, ?_⟩
            dsimp only [tNoPart]
            have s18 := s17.trans s8
            refine slA_of (s18 _ _ hk) fun q9 H9 s9 hq9 => ?_
            rw [tailV] at hq9
            have s19 := s18.trans s9
            have lf := M.lf
            obtain ⟨o, g, hd', kp⟩ := (hd1.same s19).put hq9 (r := rInt) (a := num v) rfl (by omega)
            refine ⟨d1, _, rfl, g, ?_⟩
            have hd2' : RD rLogT.R (upd H9 d1 o) d2 s.logs := (hd2.same s19).keep kp (fun o' h => by rw [upd_ne ne.symm]; exact h)
            refine HB D _ v0 d1 d2 qk qv { s with found := putR s.found r (num v) } n (82 :: r, v) x6 hit0 M.ll hn hd2' (kp.tup (s19 _ _ hk)) (kp.tup (s19 _ _ hv)) (fun z => ?_) fun s' hs' => ?_
            · rw [step2_o (by decide)] at z; cases z
            · rw [step2_o (by decide)] at hs'
              cases hs'
              exact ⟨rfl, fun H' f k h1 h2 => kg _ (step_f hg) H' (((Fr2.of s19).trans Fr2.up1).trans f) (((KeepN.of s19).trans kp).trans k) (hd'.keep k (h1 · ne)) h2⟩
      · rw [decide_eq_false (show ¬ V.int ((v.map V.int).length : Nat) = V.int 8 from fun z => c2 (by injection z with z; rw [List.length_map] at z; omega))]
        exact iteT (iteT ⟨_, rfl, _, rfl, fun d hd => kb (step_fn (goodF_n2 c2)) d _ s13 hd⟩)
    · show if (!decide (RefOk r)) = true then _ else _
      rw [decide_eq_false c1]
      exact iteT (iteT ⟨_, rfl, _, rfl, fun d hd => kb (step_fn (goodF_n1 c1)) d _ s13 hd⟩)
  · rw [decide_eq_false (fun z => c0 (by injection z))]
    refine iteF (HB D _ v0 d1 d2 qk qv s n (x :: r, v) x6 hit0 M.ll hn hd2 hk hv (fun z => kb (by rw [step2_M c0]; exact z)) fun s' hs' => ?_)
    have ef : s'.found = s.found := by
      unfold step2 at hs'
      simp only at hs'
      split at hs'
      · split at hs'
        · split at hs'
          · cases hs'; rfl
          · cases hs'
        · split at hs'
          · cases hs'; rfl
          · cases hs'
      · cases hs'; rfl
    exact ⟨ef, fun H' f k h1 h2 => kg s' (by rw [step2_M c0]; exact hs') H' f k (by rw [ef]; exact hd1.keep k (h1 · ne)) h2⟩
end
end K49
namespace K49
open PySem L2
/-! ### sorted items, told as data -/
theorem paired_zip {α β : Type} {F : α → β → Prop} {xs : List α} {ys : List β} (h : Paired F xs ys) : (∀ z ∈ xs.zip ys, F z.1 z.2) ∧ (xs.zip ys).map (·.1) = xs ∧ (xs.zip ys).map (·.2) = ys := by
  induction h with
  | nil => exact ⟨(fun z hz => by cases hz), rfl, rfl⟩
  | @cons p q ps qs hq t ih =>
    obtain ⟨h1, h2, h3⟩ := ih
    refine ⟨fun z hz => ?_, ?_, ?_⟩
    · rw [List.zip_cons_cons] at hz
      rcases List.mem_cons.mp hz with rfl | hz
      · exact hq
      · exact h1 z hz
    · rw [List.zip_cons_cons, List.map_cons, h2]
    · rw [List.zip_cons_cons, List.map_cons, h3]
theorem paired_maps {α β γ : Type} {F : α → β → Prop} (f : γ → α) (g : γ → β) : ∀ (Z : List γ), (∀ z ∈ Z, F (f z) (g z)) → Paired F (Z.map f) (Z.map g)
  | [], _ => .nil
  | z :: Z, h => .cons (h z (List.mem_cons_self ..)) (paired_maps f g Z fun y hy => h y (List.mem_cons_of_mem _ hy))
theorem paired_sort {α : Type} {F : V → α → Prop} {lv : List (List Int × V)} {l : List (List Int × α)} (h : Paired (fun (p : List Int × V) (q : List Int × α) => p.1 = q.1 ∧ F p.2 q.2) lv l) : Paired (fun (p : List Int × V) (q : List Int × α) => p.1 = q.1 ∧ F p.2 q.2) (sortK lv) (sortK l) := by
  obtain ⟨h1, h2, h3⟩ := paired_zip h
  let Z := lv.zip l
  let S := Z.mergeSort fun a b => rowLe a.1.1 b.1.1
  have e1 : S.map (·.1) = sortK lv := by
    rw [← h2]
    exact PySem.W.sort_maps (fun z : (List Int × V) × (List Int × α) => z.1) fun a _ b _ => rfl
  have e2 : S.map (·.2) = sortK l := by
    have : sortK (Z.map (·.2)) = S.map (·.2) := (PySem.W.sort_maps (r := fun a b : (List Int × V) × (List Int × α) => rowLe a.1.1 b.1.1) (fun z : (List Int × V) × (List Int × α) => z.2) fun a ha b hb => by rw [(h1 a ha).1, (h1 b hb).1]).symm
    rw [← this, h3]
  rw [← e1, ← e2]
  exact paired_maps _ _ S fun z hz => h1 z (List.mem_mergeSort.mp hz)
theorem dp_pairs {K : PySem.W.Frag} {H : Hp} {α : Type} {F : V → α → Prop} (D : α → PyData) (hF : ∀ v a, F v a → Dp K H v (D a)) : ∀ (zs : List (Addr × List Int × V)) (l : List (List Int × α)), (∀ z ∈ zs, ∃ q, H z.1 = some (.tup [.ref q, z.2.2]) ∧ H q = some (.tup (z.2.1.map V.int))) →
    Paired (fun (p : List Int × V) (q : List Int × α) => p.1 = q.1 ∧ F p.2 q.2) (zs.map (·.2)) l → DpAll K H (zs.map fun z => V.ref z.1) (l.map fun e => .tuple [rowD e.1, D e.2])
  | [], [], _, _ => .nil
  | [], _ :: _, _, h => by cases h
  | _ :: _, [], _, h => by cases h
  | z :: zs, e :: l, hz, h => by
    cases h with
    | cons hq t =>
      obtain ⟨q, h1, h2⟩ := hz z (List.mem_cons_self ..)
      refine .cons (.tup (SqT.of h1) (.cons ?_ (.cons (hF _ _ hq.2) .nil))) (dp_pairs D hF zs l (fun y hy => hz y (List.mem_cons_of_mem _ hy)) t)
      rw [← hq.1]
      exact dp_row h2
theorem dp_sorted {K : PySem.W.Frag} {H : Hp} {α : Type} {F : V → α → Prop} (D : α → PyData) (hF : ∀ v a, F v a → Dp K H v (D a)) {lv : List (List Int × V)} {l : List (List Int × α)} {zs : List (Addr × List Int × V)} {t : Addr} (h : Paired (fun (p : List Int × V) (q : List Int × α) => p.1 = q.1 ∧ F p.2 q.2) lv l)
    (hs : zs.map (·.2) = lv.mergeSort fun a b => rowLe a.1 b.1) (hz : ∀ z ∈ zs, ∃ q, H z.1 = some (.tup [.ref q, z.2.2]) ∧ H q = some (.tup (z.2.1.map V.int))) (ht : H t = some (.tup (zs.map fun z => V.ref z.1))) : Dp K H (.ref t) (.tuple ((sortK l).map fun e => .tuple [rowD e.1, D e.2])) :=
  .tup (SqT.of ht) (dp_pairs D hF zs (sortK l) hz (by rw [hs]; exact paired_sort h))
theorem pair_app {α β : Type} {F : α → β → Prop} {xs xs' : List α} {ys ys' : List β} (h : Paired F xs ys) (h' : Paired F xs' ys') : Paired F (xs ++ xs') (ys ++ ys') := by
  induction h with
  | nil => exact h'
  | cons hq t ih => exact .cons hq ih
theorem pairT_same {H H' : Hp} (s : Same H H') {ps : List Addr} {kvs : List (List Key × V)} (h : Paired (PairT H) ps kvs) : Paired (PairT H') ps kvs := paired_mono h fun x y ⟨q, h1, h2⟩ => ⟨q, s _ _ h1, s _ _ h2⟩
theorem getR_some {α : Type} {l : List (List Int × α)} {k : List Int} (h : k ∈ keysR l) : ∃ a, getR l k = some a := by
  cases e : getR l k with
  | none => exact absurd h (getR_none.mp e)
  | some a => exact ⟨a, rfl⟩
theorem refBad_of {s : MSt} {r : List Int} {p : Int} {es : List Ent} (h1 : getR s.found r = some p) (h2 : getR s.logs r = some es) : refBad s r = !isLogP es p s.count := by
  unfold refBad
  rw [h1, h2]
theorem refBad_n1 {s : MSt} {r : List Int} (h1 : getR s.found r = none) : refBad s r = true := by
  unfold refBad
  rw [h1]
theorem refBad_n2 {s : MSt} {r : List Int} (h1 : getR s.logs r = none) : refBad s r = true := by
  unfold refBad
  rw [h1]
  cases getR s.found r <;> rfl
theorem find_at {α : Type} {p : α → Bool} {l : List α} {i : Nat} {x : α} (hi : l[i]? = some x) (hb : p x = true) (hn : ∀ j y, j < i → l[j]? = some y → p y = false) : l.find? p = some x := by
  induction l generalizing i with
  | nil => simp at hi
  | cons y l ih =>
    cases i with
    | zero =>
      cases hi
      rw [List.find?_cons_of_pos hb]
    | succ i =>
      have := hn 0 y (Nat.succ_pos _) rfl
      rw [List.find?_cons_of_neg (by rw [this]; exact Bool.false_ne_true)]
      exact ih (i := i) hi fun j z hj hz => hn (j + 1) z (Nat.succ_lt_succ hj) hz
theorem find_none {α : Type} {p : α → Bool} {l : List α} (hn : ∀ j y, j < l.length → l[j]? = some y → p y = false) : l.find? p = none := by
  rw [List.find?_eq_none]
  intro x hx
  obtain ⟨j, hj⟩ := List.mem_iff_getElem?.mp hx
  rw [hn j x (List.getElem?_eq_some_iff.mp hj).1 hj]
  exact Bool.false_ne_true
end K49
namespace K49
open PySem L2
section
variable {P : Program} {w : World} {K : PySem.W.Frag} {mg : Str → Option Value} {base : Heap}
theorem c_itemsT {X : Cx} {o : Expr} {to : TE} {apos cpos : Pos} (ho : PE X o to) (hbase : attributeBase o "items" X.env (eval o X.env) = eval o X.env := by rfl) (hline : (apos.endLine == cpos.line) = true := by rfl) :
    PE X (.Call (.Attribute o "items" apos) [] [] cpos) (tBM0 X.K "dict" DX.rItemsT to) := pe_bm0 PySem.F.plainAttrs_dict PySem.F.slot_dict_items PySem.F.type_dict_items DX.mt_itemsT ho hbase hline
theorem c_sortedItT {X : Cx} {e : Expr} {te : TE} {p pos : Pos} (hc : X.calm = true) (hu : X.A.units + 70 < cLine) (B : Blt X.mg) (he : PE X e te) (hg : Gl X "sorted" := by rfl) (h1 : starEach (e :: []) X.env = (false, eval e X.env) :: starEach [] X.env := by rfl) (h2 : (backTo pos (starEach [] X.env)).any (·.1) = false := by rfl) :
    PE X (.Call (.Name "sorted" p) [e] [] pos) (tCB (rSortItT X.K) (tCons te tNil)) := pe_callB (cr_sortedItT hc hu) hg B.sorted (by decide +kernel) (pa_cons he pa_nil h1) (by decide) (by decide) h1 h2
theorem c_sortedDT {X : Cx} {e : Expr} {te : TE} {p pos : Pos} (hc : X.calm = true) (hu : X.A.units + 70 < cLine) (B : Blt X.mg) (he : PE X e te) (hg : Gl X "sorted" := by rfl) (h1 : starEach (e :: []) X.env = (false, eval e X.env) :: starEach [] X.env := by rfl) (h2 : (backTo pos (starEach [] X.env)).any (·.1) = false := by rfl) :
    PE X (.Call (.Name "sorted" p) [e] [] pos) (tCB rSortedDT (tCons te tNil)) := pe_callB (cr_sortedDT hc hu) hg B.sorted (by decide +kernel) (pa_cons he pa_nil h1) (by decide) (by decide) h1 h2
theorem c_listItT {X : Cx} {e : Expr} {te : TE} {p pos : Pos} (hc : X.calm = true) (B : Blt X.mg) (he : PE X e te) (hg : Gl X "list" := by rfl) (h1 : starEach (e :: []) X.env = (false, eval e X.env) :: starEach [] X.env := by rfl) (h2 : (backTo pos (starEach [] X.env)).any (·.1) = false := by rfl) :
    PE X (.Call (.Name "list" p) [e] [] pos) (tCB rListItT (tCons te tNil)) := pe_callTy (call_list_itT hc) hg B.list (by decide +kernel) (pa_cons he pa_nil h1) (by decide) (by decide) h1 h2
theorem c_dictPT {X : Cx} {e : Expr} {te : TE} {p pos : Pos} (hc : X.calm = true) (hu : X.A.units + 70 < cLine) (hd : X.mg "dict" = none) (he : PE X e te) (hg : Gl X "dict" := by rfl) (h1 : starEach (e :: []) X.env = (false, eval e X.env) :: starEach [] X.env := by rfl) (h2 : (backTo pos (starEach [] X.env)).any (·.1) = false := by rfl) :
    PE X (.Call (.Name "dict" p) [e] [] pos) (tCB (rDictPT X.K) (tCons te tNil)) := pe_callTy (call_dictPT hc hu) hg hd (by decide +kernel) (pa_cons he pa_nil h1) (by decide) (by decide) h1 h2
theorem paired_left {α β : Type} {F : α → β → Prop} {xs : List α} {ys : List β} (h : Paired F xs ys) : ∀ x ∈ xs, ∃ y, F x y := by
  induction h with
  | nil => intro x hx; cases hx
  | cons hq t ih =>
    intro x hx
    rcases List.mem_cons.mp hx with rfl | hx
    · exact ⟨_, hq⟩
    · exact ih x hx
theorem paired_keys {α : Type} {F : V → α → Prop} {lv : List (List Int × V)} {l : List (List Int × α)} (h : Paired (fun (p : List Int × V) (q : List Int × α) => p.1 = q.1 ∧ F p.2 q.2) lv l) : lv.map (·.1) = keysR l := by
  induction h with
  | nil => rfl
  | cons hq t ih =>
    rw [List.map_cons, ih, hq.1]
    rfl
theorem tyd {K : PySem.W.Frag} {H : Hp} {d : Addr} {kvs : List (List Key × V)} (h : H d = some (.dT kvs)) : tyV K "dict" (.ref d) H := .inr (.inr (.inl ⟨rfl, .inr ⟨_, h⟩⟩))
/-- the second loop and what is told -/
theorem rm_end {f : Addr} {cdv : Value} {A : Around} {outer : List Env} {s0 : Shared} {H0 : Hp} {E : XK} {CB fI : Addr} (T : RMs P w K mg base CB fI) (hr : Room 8 (XRM P w K mg base f cdv A outer s0 H0 E).A) :
    ∃ t, PSs (XRM P w K mg base f cdv A outer s0 H0 E) ((defBody sRM).drop 2) t ∧ ∀ (D : Ends) (H : Hp) (v0 : V) (d1 d2 : Addr) (s : MSt) (n : Nat) (x4 x5 x6 : Option V), MOk s n → n ≤ 100 →
      RD rInt.R H d1 s.found → RD rLogT.R H d2 s.logs →
      (∀ r, firstBad s = some r → ∀ (q d : Addr) H', Same H H' → H' q = some (.tup (((76 : Int) :: r).map V.int)) → H' d = none → E (.ref CB) (some d) (upd H' d (.xd [(fAt, .ref q)]))) →
      (firstBad s = none → ∀ p H', Same H H' → Dp K H' (.ref p) (toldD s) → D.rt (.ref p) H') →
      t D [some v0, some (.ref d1), some (.ref d2), some (.int s.count), x4, x5, x6] H := by
  obtain ⟨B, C, R, hdict, _, _, _, _, _, ⟨fl, fdl, FL, mL, kL, bL⟩, hen⟩ := T
  have OL : Ok P w K mg base CX0 1 "is_log" ["log", "now", "count"] spLg := ⟨fl, fdl, ok_lg FL B hen C, mL, kL, bL⟩
  have hu := hu_of hr
  have hu70 : (XRM P w K mg base f cdv A outer s0 H0 E).A.units + 70 < cLine := by have := hr.un; omega
  refine ⟨_, pss_cons (ps_for (passes_of rfl) rfl (pi_list (c_sortedDT rfl hu70 B (c_dictPT rfl hu70 hdict (pe_op op_cat (c_listItT rfl B (c_itemsT (pv 1))) (c_listItT rfl B (c_itemsT (pv 2))))))) (pg_name (i := 6) scRM.nd rfl (Or.inl rfl))
      (pss_one (ps_if (PW.pt (pw_or (pt_cmp (pc_dnotin hu (pv 6) (pv 1))) (pw_or (pt_cmp (pc_dnotin hu (pv 6) (pv 2))) (pw_or1 (pt_not (pt_val (c_fn OL hr (pa_cons (pe_dget hu (pv 2) (pv 6) (fun _ _ => rfl)) (pa_cons (pe_dget hu (pv 1) (pv 6) (fun _ _ => rfl)) (pa_cons (pv 3) pa_nil))))))))))
        (pss_one (ps_raiseE rfl R hr (takes_of rfl rfl rfl rfl) (pa_cons (pe_op op_catA (pe_tup (pa_cons (c_c C.logk) pa_nil)) (pv 6)) pa_nil))) pss_nil)))
    (pss_one (ps_ret (pe_tup (pa_cons (c_tuple B (c_sortedItT rfl hu70 B (c_itemsT (pv 1)))) (pa_cons (c_tuple B (c_sortedItT rfl hu70 B (c_itemsT (pv 2)))) (pa_cons (pv 3) pa_nil)))))), ?_⟩
  intro D H v0 d1 d2 s n x4 x5 x6 M hn hd1 hd2 kb kg
  obtain ⟨lv1, h1, p1⟩ := id hd1
  obtain ⟨lv2, h2, p2⟩ := id hd2
  have l1 : lv1.length = s.found.length := Paired.length p1
  have l2 : lv2.length = s.logs.length := Paired.length p2
  refine ⟨_, rfl, tyd h1, d1, _, rfl, rfl, h1, fun v1 nv1 => ?_⟩
  have s1 : Same H (upd H v1 (DX.itemsO v1 d1)) := Same.new nv1
  refine ⟨v1, d1, _, rfl, upd_same, s1 _ _ h1, fun H2 a1 ps1 s2 nl1 hl1 pr1 => ?_⟩
  have s12 := s1.trans s2
  refine ⟨_, rfl, tyd (s12 _ _ h2), d2, _, rfl, rfl, s12 _ _ h2, fun v2 nv2 => ?_⟩
  have s3 : Same H2 (upd H2 v2 (DX.itemsO v2 d2)) := Same.new nv2
  refine ⟨v2, d2, _, rfl, upd_same, s3 _ _ (s12 _ _ h2), fun H4 a2 ps2 s4 nl2 hl2 pr2 => ?_⟩
  have s24 := s3.trans s4
  have lp1 : ps1.length = lv1.length := by rw [Paired.length pr1, List.length_map]
  have lp2 : ps2.length = lv2.length := by rw [Paired.length pr2, List.length_map]
  have mlf := M.lf
  have mll := M.ll
  refine ⟨a1, a2, _, _, rfl, rfl, s24 _ _ hl1, hl2, Nat.le_of_lt (big (by rw [List.length_map, List.length_map]; omega)), fun c nc => ?_⟩
  refine ⟨c, ps1 ++ ps2, _, rfl, SqL.of (by rw [upd_same, List.map_append]), pair_app (pairT_same (s24.up nc) pr1) (pairT_same (Same.new nc) pr2), fun dd ndd => ?_⟩
  obtain ⟨ns, ens, nd, mem⟩ := merged_rows lv1 lv2
  have k1 := paired_keys p1
  have k2 := paired_keys p2
  have mem' : ∀ x, x ∈ ns ↔ x ∈ keysM s := fun x => by rw [mem, k1, k2, keysM_mem]
  have rok : ∀ x ∈ ns, RefOk x := fun x hx => by
    rw [mem, k1, k2] at hx
    exact Or.elim hx (M.rf x) (M.rl x)
  refine ⟨dd, _, ns, rfl, .inl upd_same, ens, (fun x hx z => by have := (rok x hx).2.1; rw [z] at this; exact absurd this (by decide)), fun L zs nL hz hzs => ?_⟩
  rw [sortRows_same nd (keysM_nodup M) mem'] at hz
  have s14 : Same H (upd (upd H4 c (.lst (List.map V.ref ps1 ++ List.map V.ref ps2))) dd (.dT (mergeT [] (rowsKV lv1 ++ rowsKV lv2)))) := ((s12.trans s24).up nc).up ndd
  generalize upd (upd H4 c (.lst (List.map V.ref ps1 ++ List.map V.ref ps2))) dd (.dT (mergeT [] (rowsKV lv1 ++ rowsKV lv2))) = H5 at s14 nL hzs ⊢
  have s15 := s14.up nL (o := .lst (zs.map fun z => V.ref z.1))
  refine ⟨L, rfl, ⟨_, SqL.of upd_same⟩, ?_⟩
  refine for_list (K := K) (xs := zs.map fun z => V.ref z.1) (fun i σ H' => Same (upd H5 L (.lst (zs.map fun z => V.ref z.1))) H' ∧ (∃ x6 : Option V, σ = [some v0, some (.ref d1), some (.ref d2), some (.int s.count), x4, x5, x6]) ∧ ∀ j y, j < i → (sortRows (keysM s))[j]? = some y → refBad s y = false) ⟨Same.refl _, ⟨_, rfl⟩, (fun j y hj => absurd hj (Nat.not_lt_zero _))⟩ (fun i σ H' _ p => SqL.of (p.1 _ _ upd_same)) ?_ ?_
  · rintro i x σ H6 hx ⟨s6, ⟨x6', rfl⟩, nb⟩
    rw [List.getElem?_map] at hx
    obtain ⟨z, hzi, rfl⟩ : ∃ z, zs[i]? = some z ∧ x = .ref z.1 := by
      cases e : zs[i]? with
      | none => rw [e] at hx; cases hx
      | some z => rw [e] at hx; cases hx; exact ⟨z, rfl, rfl⟩
    obtain ⟨q, r⟩ := z
    have hri : (sortRows (keysM s))[i]? = some r := by rw [← hz, List.getElem?_map, hzi]; rfl
    have hrm : RefOk r := rok r ((mem' r).mpr (sortRows_mem.mp (List.mem_of_getElem? hri)))
    have s16 := s15.trans s6
    have hq : H6 q = some (.tup (r.map V.int)) := s6 _ _ ((Same.new nL) _ _ (hzs _ (List.mem_of_getElem? hzi)))
    have hfb : refBad s r = true → firstBad s = some r := fun hb => find_at hri hb nb
    have hrl : r.length ≤ 20 := hrm.2.2
    refine ⟨_, rfl, _, rfl, d1, ?_⟩
    rcases (hd1.same s16).get hq with ⟨g1, dg1⟩ | ⟨v1, p, g1, r1, dg1⟩
    · refine ⟨none, rfl, dg1, _, rfl, iteT (iteT ?_)⟩
      refine ⟨by decide, fun t nt => ⟨_, rfl, catA_of (xs := [.int 76]) upd_same (Same.at nt hq) (by rw [List.length_map]; show 1 + _ ≤ _; omega) fun q7 H7 s7 hq7 => ⟨_, rfl, fun d hd => kb r (hfb (refBad_n1 g1)) q7 d _ ((s16.up nt).trans s7) hq7 hd⟩⟩⟩
    · refine ⟨some v1, rfl, dg1, _, rfl, iteF ?_⟩
      refine ⟨_, rfl, _, rfl, d2, ?_⟩
      rcases (hd2.same s16).get hq with ⟨g2, dg2⟩ | ⟨v2, es, g2, r2, dg2⟩
      · refine ⟨none, rfl, dg2, _, rfl, iteT (iteT ?_)⟩
        refine ⟨by decide, fun t nt => ⟨_, rfl, catA_of (xs := [.int 76]) upd_same (Same.at nt hq) (by rw [List.length_map]; show 1 + _ ≤ _; omega) fun q7 H7 s7 hq7 => ⟨_, rfl, fun d hd => kb r (hfb (refBad_n2 g2)) q7 d _ ((s16.up nt).trans s7) hq7 hd⟩⟩⟩
      · refine ⟨some v2, rfl, dg2, _, rfl, iteF ?_⟩
        obtain ⟨la, lz, rfl, hla, hE⟩ := r2
        cases (show v1 = .int p from r1)
        refine ⟨_, rfl, _, rfl, d2, _, rfl, dg2, _, rfl, _, rfl, d1, _, rfl, dg1, _, rfl, la, lz, es, p, s.count, rfl, .inr hla, hE, fun H7 s7 => ⟨_, rfl, ?_⟩⟩
        have hrb := refBad_of g1 g2
        show if (!isLogP es p s.count) = true then _ else _
        cases c : isLogP es p s.count with
        | false =>
          rw [c] at hrb
          refine iteT ⟨by decide, fun t nt => ⟨_, rfl, catA_of (xs := [.int 76]) upd_same (Same.at nt (s7 _ _ hq)) (by rw [List.length_map]; show 1 + _ ≤ _; omega) fun q8 H8 s8 hq8 => ⟨_, rfl, fun d hd => kb r (hfb hrb) q8 d _ (((s16.trans s7).up nt).trans s8) hq8 hd⟩⟩⟩
        | true =>
          rw [c] at hrb
          refine iteF ⟨s6.trans s7, ⟨_, rfl⟩, fun j y hj hy => ?_⟩
          rcases Nat.lt_succ_iff_lt_or_eq.mp hj with hj | rfl
          · exact nb j y hj hy
          · rw [hri] at hy; cases hy; exact hrb
  · rintro σ H6 ⟨s6, ⟨x6', rfl⟩, nb⟩
    have s16 := s15.trans s6
    have hnone : firstBad s = none := find_none fun j y hj hy => nb j y (by rw [List.length_map]; rw [← hz, List.length_map] at hj; exact hj) hy
    refine ⟨_, rfl, tyd (s16 _ _ h1), d1, _, rfl, rfl, s16 _ _ h1, fun w1 nw1 => ?_⟩
    have t1 : Same H6 (upd H6 w1 (DX.itemsO w1 d1)) := Same.new nw1
    refine ⟨w1, d1, lv1, rfl, upd_same, t1 _ _ (s16 _ _ h1), (fun e he => by
      obtain ⟨y, hy, hv⟩ := paired_left p1 e he
      exact ⟨.int y.2, by rw [show e.2 = .int y.2 from hv]; exact .int _⟩), fun H7 b7 zs7 s7 nl7 hl7 hz7 hzs7 => ?_⟩
    refine ⟨b7, _, rfl, .inl ⟨SqL.of hl7, fun t7 nt7 => ?_⟩⟩
    have s17 := (s16.trans t1).trans s7
    have d17 : Dp K (upd H7 t7 (.tup (zs7.map fun z => V.ref z.1))) (.ref t7) (foundD s.found) := dp_sorted (F := fun v a => v = .int a) (fun a => .int a) (fun v a h => by rw [h]; exact .int _) p1 hz7 (fun z hz => by
      obtain ⟨q, e1, e2⟩ := hzs7 z hz
      exact ⟨q, Same.at nt7 e1, Same.at nt7 e2⟩) upd_same
    have s18 := s17.up nt7 (o := .tup (zs7.map fun z => V.ref z.1))
    generalize upd H7 t7 (.tup (zs7.map fun z => V.ref z.1)) = H8 at d17 s18 ⊢
    refine ⟨_, rfl, tyd (s18 _ _ h2), d2, _, rfl, rfl, s18 _ _ h2, fun w2 nw2 => ?_⟩
    have t2 : Same H8 (upd H8 w2 (DX.itemsO w2 d2)) := Same.new nw2
    have hR2 : RD rLogT.R (upd H8 w2 (DX.itemsO w2 d2)) d2 s.logs := (hd2.same s18).same t2
    have p2' : ∀ {H' : Hp}, Same H H' → Paired (fun (p : List Int × V) (q : List Int × List Ent) => p.1 = q.1 ∧ rLogT.R H' p.2 q.2) lv2 s.logs := fun ss => paired_mono p2 fun x y z => ⟨z.1, rLogT.keep (.of ss) z.2⟩
    refine ⟨w2, d2, lv2, rfl, upd_same, t2 _ _ (s18 _ _ h2), (fun e he => by
      obtain ⟨y, hy, a, zz, ev, ha, hE⟩ := paired_left (p2' (s18.trans t2)) e he
      exact ⟨logD y.2, by rw [ev]; exact dp_log ha hE⟩), fun H9 b9 zs9 s9 nl9 hl9 hz9 hzs9 => ?_⟩
    refine ⟨b9, _, rfl, .inl ⟨SqL.of hl9, fun t9 nt9 => ?_⟩⟩
    have s19 := (s18.trans t2).trans s9
    have s20 := s19.up nt9 (o := .tup (zs9.map fun z => V.ref z.1))
    have s8 : Same H8 (upd H9 t9 (.tup (zs9.map fun z => V.ref z.1))) := (t2.trans s9).up nt9
    have d20 : Dp K (upd H9 t9 (.tup (zs9.map fun z => V.ref z.1))) (.ref t9) (logsD s.logs) := dp_sorted (F := fun v a => rLogT.R (upd H9 t9 (.tup (zs9.map fun z => V.ref z.1))) v a) (fun a => logD a) (fun v a h => by
      obtain ⟨a, zz, ev, ha, hE⟩ := h
      rw [ev]
      exact dp_log ha hE) (p2' s20) hz9 (fun z hz => by
      obtain ⟨q, e1, e2⟩ := hzs9 z hz
      exact ⟨q, Same.at nt9 e1, Same.at nt9 e2⟩) upd_same
    generalize upd H9 t9 (.tup (zs9.map fun z => V.ref z.1)) = Ha at d20 s20 s8 ⊢
    refine ⟨_, rfl, sz3, fun tp ntp => kg hnone tp _ (s20.up ntp) (.tup (SqT.of upd_same) (.cons (Dp.keeps (s8.up ntp) _ _ d17) (.cons (Dp.keeps (Same.new ntp) _ _ d20) (.cons (.int _) .nil))))⟩
end
end K49
namespace K49
open PySem L2
section
variable {P : Program} {w : World} {K : PySem.W.Frag} {mg : Str → Option Value} {base : Heap}
theorem ItemsAt.snoc {H : Hp} {zs : List (Addr × Item)} {its : List Item} (h : ItemsAt H zs its) {a q1 q2 : Addr} {it : Item} (ha : H a = some (.tup [.ref q1, .ref q2])) (h1 : H q1 = some (.tup (it.1.map V.int))) (h2 : H q2 = some (.tup (it.2.map V.int))) : ItemsAt H (zs ++ [(a, it)]) (its ++ [it]) :=
  ⟨by rw [List.map_append, h.eq]; rfl, fun z hz => by
    rcases List.mem_append.mp hz with hz | hz
    · exact h.at' z hz
    · rw [List.mem_singleton.mp hz]; exact ⟨q1, q2, ha, h1, h2⟩⟩
theorem KeepN.lst' {H : Hp} {D : Addr} {xs : List V} {o : HO} (h : H D = none) : KeepN H (upd H D o) := .of (Same.new h)
/-- tuples stand where a list grows -/
theorem ItemsAt.lst {H : Hp} {zs : List (Addr × Item)} {its : List Item} {D : Addr} {xs : List V} {o : HO} (h : ItemsAt H zs its) (hD : H D = some (.lst xs)) : ItemsAt (upd H D o) zs its := ⟨h.eq, fun z hz => by
  obtain ⟨q1, q2, h1, h2, h3⟩ := h.at' z hz
  have n : ∀ {c : Addr} {ys : List V}, H c = some (.tup ys) → c ≠ D := fun e => ne_of e hD (by intro z; cases z)
  exact ⟨q1, q2, by rw [upd_ne (n h1)]; exact h1, by rw [upd_ne (n h2)]; exact h2, by rw [upd_ne (n h3)]; exact h3⟩⟩
theorem ok_rm {f : Addr} {fd : FuncData} {CB fI : Addr} (F : Fun K "refs_meaning" "refs_meaning" sRM f fd) (T : RMs P w K mg base CB fI) : FnOk P w K mg base (L2.CX P w) 9 f fd ["items"] (spRM K CB) := by
  refine F.okX scRM (fun vs H Q E h => ?_) (fun cdv A outer s H vs Q E hr h => ?_)
  · obtain ⟨a, zs, its, rfl, _⟩ := h
    rfl
  · obtain ⟨a, zs, its, rfl, ha, hI, hl, hok, kb, kg⟩ := h
    obtain ⟨tb, htb, hqb⟩ := rm_body (w := w) (base := base) (f := f) (cdv := cdv) (outer := outer) (s0 := s) (H0 := H) (E := E) (A := A) T hr
    obtain ⟨te, hte, hqe⟩ := rm_end (w := w) (base := base) (f := f) (cdv := cdv) (outer := outer) (s0 := s) (H0 := H) (E := E) (A := A) T hr
    have B := T.B
    refine ⟨_, pss_cons (ps_par3 (i := 1) (j := 2) (l := 3) rfl scRM.nd rfl rfl rfl (by decide) (by decide) (by decide) rfl rfl rfl (pa_cons pe_dnewT (pa_cons pe_dnewT (pa_cons pe_int pa_nil))) (by rfl))
      (pss_cons (ps_for (passes_of rfl) rfl (pi_list (pe_lc (own := [("key", 4), ("value", 5)]) (g := g2 K 4 5) (by rfl) scRM.nd (pi_tup (pv 0)) (blkOk_by (own := [("key", 4), ("value", 5)]) (N := nRM) (sc := defScope sRM) (by decide +kernel))
          (fun _ _ _ _ _ => pg_tupK rfl (by rfl) (pgs_cons (pg_name (i := 4) scRM.nd rfl (Or.inl rfl)) (pgs_cons (pg_name (i := 5) scRM.nd rfl (Or.inl rfl)) pgs_nil)))
          (fun _ _ _ _ _ => pts_nil) (fun _ _ _ _ _ => pe_tup (pa_cons (c_tupleK (K := K) rfl B (pv 4)) (pa_cons (c_tupleK (K := K) rfl B (pv 5)) pa_nil)))))
        (pg_tup (by rfl) (pgs_cons (pg_name (i := 4) scRM.nd rfl (Or.inl rfl)) (pgs_cons (pg_name (i := 5) scRM.nd rfl (Or.inl rfl)) pgs_nil))) htb) hte), ?_⟩
    intro d1 nd1 d2 nd2
    refine ⟨_, _, _, rfl, ?_⟩
    have hd1 := (upd_same : (upd H d1 (.dT [])) d1 = some (.dT []))
    have n2 : d1 ≠ d2 := ne_of_none hd1 nd2
    have nd2' : H d2 = none := by rw [upd_ne n2.symm] at nd2; exact nd2
    have s1 : Same H (upd (upd H d1 (.dT [])) d2 (.dT [])) := (Same.new nd1).up nd2
    have r1 : RD rInt.R (upd (upd H d1 (.dT [])) d2 (.dT [])) d1 [] := ⟨[], by rw [upd_ne n2]; exact hd1, .nil⟩
    have r2 : RD rLogT.R (upd (upd H d1 (.dT [])) d2 (.dT [])) d2 [] := ⟨[], upd_same, .nil⟩
    generalize upd (upd H d1 (.dT [])) d2 (.dT []) = H1 at s1 r1 r2 ⊢
    have hI1 := hI.keep s1
    refine ⟨_, rfl, a, rfl, ⟨_, SqT.of (s1 _ _ ha)⟩, fun L nL => ?_⟩
    have lz : (refs zs).length = its.length := by rw [List.length_map, hI.len]
    refine lc_it (walk_tup (K := K) (a := a) (xs := refs zs)) (fun i H' => Same H1 H' ∧ ∃ ys : List (Addr × Item), H' L = some (.lst (refs ys)) ∧ ItemsAt H' ys (its.take i)) ⟨Same.new nL, [], upd_same, rfl, (fun z hz => by cases hz)⟩ (fun i H' _ p => SqT.of (p.1 _ _ (s1 _ _ ha))) ?_ ?_
    · rintro i x H2 H3 hi ⟨s2, ys, hL, hY⟩ ⟨rfl, hx⟩
      obtain ⟨ea, it, q1, q2, rfl, hit, _, e1, e2, e3⟩ := (hI1.keep s2).of hx
      refine ⟨ea, _, rfl, SqT.of e1, rfl, _, _, rfl, _, _, rfl, rfl, rfl, ?_⟩
      refine ⟨_, rfl, q1, _, rfl, .inr ⟨SqT.of e2, _, rfl, q2, _, rfl, .inr ⟨SqT.of e3, sz2, fun t nt => ?_⟩⟩⟩
      have hL' := Same.at nt (o := .tup [.ref q1, .ref q2]) hL
      have yl : ys.length = i := by rw [hY.len, List.length_take]; omega
      refine ⟨_, hL', big (by rw [List.length_map]; omega), (s2.up nt).put nL, ys ++ [(t, it)], ?_, ?_⟩
      · rw [upd_same]
        show some (HO.lst (refs ys ++ [V.ref t])) = some (HO.lst (refs (ys ++ [(t, it)])))
        rw [show refs (ys ++ [(t, it)]) = refs ys ++ [V.ref t] from List.map_append]
      · have et : its.take (i + 1) = its.take i ++ [it] := by rw [List.take_succ, hit]; rfl
        rw [et]
        exact ItemsAt.lst ((hY.keep (Same.new nt)).snoc upd_same (Same.at nt e2) (Same.at nt e3)) hL'
    rintro H2 ⟨s2, ys, hL, hY⟩
    rw [lz, List.take_length] at hY
    have s12 := s1.trans s2
    have lys : (refs ys).length = its.length := by rw [List.length_map, hY.len]
    refine ⟨L, rfl, ⟨_, SqL.of hL⟩, ?_⟩
    have off : ∀ {H' H'' : Hp}, Same H H' → Fr2 d1 d2 H' H'' → Same H H'' := fun a b c o h => b c o (a c o h) (ne_of_none h nd1) (ne_of_none h nd2')
    refine for_list (K := K) (xs := refs ys) (fun i σ H' => KeepN H2 H' ∧ Same H H' ∧ ∃ s : MSt, runM m0 (its.take i) = .inr s ∧ MOk s i ∧ RD rInt.R H' d1 s.found ∧ RD rLogT.R H' d2 s.logs ∧ ∃ x4 x5 : Option V, σ = [some (.ref a), some (.ref d1), some (.ref d2), some (.int s.count), x4, x5, none])
      ⟨.refl _, s12, m0, rfl, m0_ok, r1.same s2, r2.same s2, none, none, rfl⟩ (fun i σ H' _ p => SqL.of (p.1.lst hL)) ?_ ?_
    · rintro i x σ H3 hx ⟨k3, s3, s', hrun, M, f1, f2, x4, x5, rfl⟩
      obtain ⟨ea, it, q1, q2, rfl, hit, _, e1, e2, e3⟩ := (hY.keepN k3).of hx
      have hi : i < its.length := (List.getElem?_eq_some_iff.mp hit).1
      refine ⟨ea, _, rfl, SqT.of e1, rfl, _, _, rfl, _, _, rfl, rfl, ?_⟩
      obtain ⟨ra, rb⟩ := runM_take hrun hit
      refine hqb _ H3 (.ref a) d1 d2 q1 q2 s' i it none (hok it (List.mem_of_getElem? hit)) M (by omega) n2 f1 f2 e2 e3 (fun hs d H4 s4 hd => ?_) (fun s'' hs H4 fr kp g1 g2 => ?_)
      · exact kb it.1 (by unfold meaning; rw [rb hs]) q1 d H4 (s3.trans s4) (s4 _ _ e2) hd
      · exact ⟨k3.trans kp, off s3 fr, s'', ra _ hs, M.step hs, g1, g2, _, _, rfl⟩
    · rintro σ H3 ⟨k3, s3, s', hrun, M, f1, f2, x4, x5, rfl⟩
      rw [lys, List.take_length] at hrun
      rw [lys] at M
      refine hqe _ H3 (.ref a) d1 d2 s' its.length x4 x5 none M (by omega) f1 f2 (fun r hr q d H4 s4 hq hd => ?_) (fun hn p H4 s4 hD => ?_)
      · exact kb (76 :: r) (by unfold meaning; rw [hrun]; simp only; rw [hr]) q d H4 (s3.trans s4) hq hd
      · exact kg s' its.length (by unfold meaning; rw [hrun]; simp only; rw [hn]) M hl p H4 (s3.trans s4) hD
end
end K49
namespace K49
open PySem L2
/-! ### the law's own words: names and logs -/
abbrev sNm : Stmt := topS 41
abbrev sLL : Stmt := topS 42
def spNm : Sp := fun vs H Q _ => ∃ n : Int, vs = [.int n] ∧ ∀ (q : Addr) H', Same H H' → H' q = some (.tup ((be 8 n).map V.int)) → Q (.ref q) H'
theorem Ents.lst {H : Hp} {zs : List (Addr × Ent)} {es : List Ent} {D : Addr} {xs : List V} {o : HO} (h : Ents H zs es) (hD : H D = some (.lst xs)) : Ents (upd H D o) zs es := ⟨h.eq, fun z hz => by
  have := h.at' z hz
  rw [upd_ne (ne_of this hD (by intro z; cases z))]
  exact this⟩
theorem Ents.fr {b : Addr} {H H' : Hp} {zs : List (Addr × Ent)} {es : List Ent} (h : Ents H zs es) (f : Fr b H H') (hb : BoxAt H b) : Ents H' zs es := ⟨h.eq, fun z hz => by
  obtain ⟨g, r, hb⟩ := hb
  have := h.at' z hz
  exact f _ _ this (ne_of this hb (by intro z; cases z))⟩
theorem Ents.drop {H : Hp} {zs : List (Addr × Ent)} {es : List Ent} (h : Ents H zs es) (k : Nat) : Ents H (zs.drop k) (es.drop k) := ⟨by rw [List.map_drop, h.eq], fun z hz => h.at' z (List.mem_of_mem_drop hz)⟩
theorem Ents.take {H : Hp} {zs : List (Addr × Ent)} {es : List Ent} (h : Ents H zs es) (k : Nat) : Ents H (zs.take k) (es.take k) := ⟨by rw [List.map_take, h.eq], fun z hz => h.at' z (List.mem_of_mem_take hz)⟩
theorem Ents.app {H : Hp} {zs zs' : List (Addr × Ent)} {es es' : List Ent} (h : Ents H zs es) (h' : Ents H zs' es') : Ents H (zs ++ zs') (es ++ es') := ⟨by rw [List.map_append, h.eq, h'.eq], fun z hz => (List.mem_append.mp hz).elim (h.at' z) (h'.at' z)⟩
def LogL (H : Hp) (l : Addr) (es : List Ent) : Prop := ∃ zs, H l = some (.lst (refs zs)) ∧ Ents H zs es
theorem LogL.keep {H H' : Hp} {l : Addr} {es : List Ent} (h : LogL H l es) (s : Same H H') : LogL H' l es := let ⟨zs, h1, h2⟩ := h; ⟨zs, s _ _ h1, h2.keep s⟩
theorem LogL.fr {b : Addr} {H H' : Hp} {l : Addr} {es : List Ent} (h : LogL H l es) (f : Fr b H H') (hb : BoxAt H b) (n : l ≠ b) : LogL H' l es := let ⟨zs, h1, h2⟩ := h; ⟨zs, f _ _ h1 n, h2.fr f hb⟩
abbrev EntB (m : Int) (e : Ent) : Prop := (0 ≤ e.1 ∧ e.1 ≤ m) ∧ plOk e.2.1 = true ∧ plOk e.2.2 = true
abbrev LogB (m : Int) (es : List Ent) : Prop := es ≠ [] ∧ es.length ≤ 8 ∧ ∀ e ∈ es, EntB m e
abbrev EntG (e : Ent) : Prop := EntB 100 e
abbrev LogG (es : List Ent) : Prop := LogB 100 es
theorem EntB.mono {m n : Int} {e : Ent} (h : EntB m e) (l : m ≤ n) : EntB n e := ⟨⟨h.1.1, Int.le_trans h.1.2 l⟩, h.2⟩
theorem LogB.mono {m n : Int} {es : List Ent} (h : LogB m es) (l : m ≤ n) : LogB n es := ⟨h.1, h.2.1, fun e he => (h.2.2 e he).mono l⟩
def spLL : Sp := fun vs H Q _ => ∃ (b : Addr) (now : Int), vs = [.ref b, .int now, .int 2] ∧ BoxAt H b ∧ plOk (some now) = true ∧ ∀ (p : Addr) (es : List Ent) H', H p = none → Fr b H H' → BoxAt H' b → LogL H' p es → LogB 50 es → Q (.ref p) H'
theorem BoxAt.keep {H H' : Hp} {b : Addr} (h : BoxAt H b) (s : Same H H') : BoxAt H' b := let ⟨g, r, h⟩ := h; ⟨g, r, s _ _ h⟩
theorem BoxAt.put {H : Hp} {b p : Addr} {o : HO} (h : BoxAt H b) (n : p ≠ b) : BoxAt (upd H p o) b := let ⟨g, r, h⟩ := h; ⟨g, r, by rw [upd_ne n.symm]; exact h⟩
theorem BoxAt.ne {H : Hp} {b p : Addr} (h : BoxAt H b) (n : H p = none) : p ≠ b := fun z => by
  obtain ⟨g, r, h⟩ := h
  rw [z, h] at n
  cases n
theorem BoxAt.neT {H : Hp} {b p : Addr} {xs : List V} (h : BoxAt H b) (n : H p = some (.tup xs)) : p ≠ b := by
  obtain ⟨g, r, h⟩ := h
  exact ne_of n h (by intro z; cases z)
theorem Fr.put {b p : Addr} {H H' : Hp} {o : HO} (x : Fr b H H') (n : H p = none) : Fr b H (upd H' p o) := fun c u h nb => by
  rw [upd_ne (ne_of_none h n)]
  exact x c u h nb
theorem Fr.free' {b p : Addr} {H H' : Hp} (x : Fr b H H') (n : p ≠ b) (h : H' p = none) : H p = none := by
  cases e : H p with
  | none => rfl
  | some o => rw [x p o e n] at h; cases h
theorem refs_drop {α : Type} (zs : List (Addr × α)) (k : Nat) : (refs zs).drop k = refs (zs.drop k) := List.map_drop.symm
theorem refs_take {α : Type} (zs : List (Addr × α)) (k : Nat) : (refs zs).take k = refs (zs.take k) := List.map_take.symm
theorem refs_app {α : Type} (zs zs' : List (Addr × α)) : refs zs ++ refs zs' = refs (zs ++ zs') := List.map_append.symm
theorem plOk_some {i : Int} (h0 : 0 ≤ i) (h1 : i < NAMES) : plOk (some i) = true := decide_eq_true ⟨h0, h1⟩
theorem sz1 : 1 ≤ sizeLine := by decide
section
variable {P : Program} {w : World} {K : PySem.W.Frag} {mg : Str → Option Value} {base : Heap}
theorem scNm : FnScope ["name", "found", "at"] ["name"] (defScope sNm) := ⟨rfl, rfl, rfl, by decide +kernel, rfl, by decide +kernel, by decide +kernel⟩
theorem ok_nm (D : Def K mg "_law_name" sNm ["name"]) (B : Blt mg) : Ok P w K mg base CX0 1 "_law_name" ["name"] spNm := by
  refine D.ok fun F => F.ok scNm (fun vs H Q E h => ?_) (fun cdv A outer s H vs Q E hr h => ?_)
  · obtain ⟨n, rfl, _⟩ := h
    rfl
  · obtain ⟨n, rfl, q⟩ := h
    refine ⟨_, pss_cons (ps_set (i := 1) scNm.nd rfl (.inl rfl) (pe_tup pa_nil))
      (pss_cons (ps_for PassesOwn.never rfl (i_range B pe_int) (pg_name (i := 2) scNm.nd rfl (Or.inl rfl))
        (pss_one (ps_par (i := 1) (j := 0) (by rfl) scNm.nd rfl rfl (by decide) rfl rfl (pa_cons (pe_op op_catA (pe_tup (pa_cons (pe_op op_mod (c_int B (pv 0)) pe_int) pa_nil)) (pv 1)) (pa_cons (pe_op op_fdiv (pv 0) pe_int) pa_nil)) (by rfl))))
      (pss_one (ps_ret (pv 1)))), ?_⟩
    refine ⟨by decide, fun t nt => ?_⟩
    refine ⟨8, rfl, by decide, by decide, ?_⟩
    refine for_range (lo := 0) (n := 8) (fun i σ H' => Same H H' ∧ ∃ (a : Addr) (x2 : Option V), σ = [some (.int (n / 256 ^ i)), some (.ref a), x2] ∧ H' a = some (.tup ((be i n).map V.int))) ⟨Same.new nt, t, none, by rw [Int.pow_zero, Int.ediv_one]; rfl, upd_same⟩ ?_ ?_
    · rintro i σ H' hi ⟨s1, a, x2, rfl, ha⟩
      refine ⟨_, rfl, .inl ⟨_, rfl, _, _, rfl, rfl, (by decide : (0 : Int) < 256), sz1, fun u nu => ⟨_, rfl, ?_⟩⟩⟩
      refine catA_of (xs := [.int (n / 256 ^ i % 256)]) upd_same (Same.at nu ha) (by rw [List.length_map, be_length]; show 1 + i ≤ _; omega) fun q1 H1 t1 h1 => ?_
      refine ⟨_, rfl, _, _, rfl, rfl, ⟨by decide, by decide⟩, _, _, rfl, (s1.up nu).trans t1, q1, some (.int (0 + (i : Nat))), ?_, ?_⟩
      · show _ = [some (V.int (n / 256 ^ (i + 1))), _, _]
        rw [← div_pow_succ]
        rfl
      · rw [h1, be_succ]
        rfl
    · rintro σ H' ⟨s1, a, x2, rfl, ha⟩
      exact ⟨_, rfl, q a _ s1 ha⟩
abbrev nLL : List Str := ["box", "now", "most", "names", "number", "found", "one", "other", "turn"]
theorem scLL : FnScope nLL ["box", "now", "most"] (defScope sLL) := ⟨rfl, rfl, rfl, by decide +kernel, rfl, by decide +kernel, by decide +kernel⟩
theorem ok_ll (D : Def K mg "_law_log" sLL ["box", "now", "most"]) (B : Blt mg) (hz : mg "zip" = none) (OT : Ok P w K mg base CX0 1 "_law_take" ["box", "many"] spTake) : Ok P w K mg base CX0 2 "_law_log" ["box", "now", "most"] spLL := by
  refine D.ok fun F => F.ok scLL (fun vs H Q E h => ?_) (fun cdv A outer s H vs Q E hr h => ?_)
  · obtain ⟨b, now, rfl, _⟩ := h
    rfl
  · obtain ⟨b, now, rfl, hb, hnow, q⟩ := h
    refine ⟨_, pss_cons (ps_set (i := 3) scLL.nd rfl (.inl rfl) (pe_op op_cat (pe_op op_cat (pe_lst (pa_cons pe_non pa_nil))
        (pe_lc (own := [("turn", 8)]) (g := gName 8) (by rfl) scLL.nd (i_range B (c_fn OT hr (pa_cons (pv 0) (pa_cons pe_int pa_nil)))) (blkOk_by (own := [("turn", 8)]) (N := nLL) (sc := defScope sLL) (by decide +kernel)) (fun _ _ _ _ _ => pg_name (i := 8) scLL.nd rfl (Or.inl rfl))
          (fun _ _ _ _ _ => pts_nil) (fun _ _ _ _ _ => pe_op op_add (pe_op op_add pe_int (pe_op op_mul (c_fn OT hr (pa_cons (pv 0) (pa_cons pe_int pa_nil))) pe_int)) (pv 8)))) (pe_lst (pa_cons (pv 1) pa_nil))))
      (pss_cons (ps_par (i := 4) (j := 5) (by rfl) scLL.nd rfl rfl (by decide) rfl rfl (pa_cons pe_int (pa_cons (pe_lst pa_nil) pa_nil)) (by rfl))
      (pss_cons (ps_for PassesOwn.never rfl (pi_zip (by rfl) hz (pa_cons (pv 3) (pa_cons (pe_slice sl_list (pv 3) (po_some pe_int) po_none) pa_nil))) (pg_tup (by rfl) (pgs_cons (pg_name (i := 6) scLL.nd rfl (Or.inl rfl)) (pgs_cons (pg_name (i := 7) scLL.nd rfl (Or.inl rfl)) pgs_nil)))
        (pss_cons (ps_expr (c_append (pv 5) (pe_tup (pa_cons (pv 4) (pa_cons (pv 6) (pa_cons (pv 7) pa_nil))))))
        (pss_one (ps_set (i := 4) scLL.nd rfl (.inl rfl) (pe_op op_add (pe_op op_add (pv 4) pe_int) (c_fn OT hr (pa_cons (pv 0) (pa_cons (pv 2) pa_nil))))))))
      (pss_one (ps_ret (pe_slice sl_list (pv 5) (po_some (pe_un un_neg pe_int)) po_none))))), ?_⟩
    refine ⟨sz1, fun l0 nl0 => ?_⟩
    have s1 : Same H (upd H l0 (.lst [.non])) := Same.new nl0
    have hl0 : (upd H l0 (.lst [.non])) l0 = some (.lst [.non]) := upd_same
    generalize upd H l0 (.lst [.non]) = H1 at s1 hl0 ⊢
    have b1 := hb.keep s1
    have n0 : l0 ≠ b := hb.ne nl0
    refine ⟨_, rfl, b, 12, rfl, b1, by decide, by decide, fun d H2 d0 d1 f2 b2 => ⟨d, rfl, by omega, by omega, fun D nD => ?_⟩⟩
    have nDb := b2.ne nD
    refine lc_it (walk_range (lo := 0) (n := d.toNat)) (fun i H' => Fr b H2 H' ∧ BoxAt H' b ∧ ∃ ps : List (Option Int), H' D = some (.lst (ps.map plV)) ∧ ps.length = i ∧ ∀ p ∈ ps, plOk p = true) ⟨.of (Same.new nD), b2.put nDb, [], upd_same, rfl, (fun p hp => by cases hp)⟩ (fun _ _ _ _ => trivial) ?_ ?_
    · rintro i x H3 H4 hi ⟨f3, b3, ps, hD, hl, hok⟩ ⟨rfl, rfl⟩
      refine ⟨rfl, _, rfl, b, 5, rfl, b3, by decide, by decide, fun d' H5 d0' d1' f5 b5 => ?_⟩
      refine ⟨_, _, rfl, rfl, .inr ⟨by decide, by decide⟩, _, _, rfl, rfl, _, rfl, _, _, rfl, rfl, ?_⟩
      have hD5 := f5 _ _ hD nDb
      refine ⟨_, hD5, big (by rw [List.length_map]; omega), (f3.trans f5).put nD, b5.put nDb, ps ++ [some (10 + d' * 100 + (0 + (i : Nat)))], ?_, by rw [List.length_append, hl]; rfl, fun p hp => ?_⟩
      · rw [upd_same, List.map_append]
        rfl
      · rcases List.mem_append.mp hp with hp | hp
        · exact hok p hp
        · rw [List.mem_singleton.mp hp]
          exact plOk_some (by omega) (by show _ < (2305843009213693951 : Int); omega)
    rintro H3 ⟨f3, b3, ps, hD, hl, hok⟩
    have hl03 := f3 _ _ (f2 _ _ hl0 n0) n0
    refine ⟨l0, D, _, _, rfl, rfl, hl03, hD, Nat.le_of_lt (big (by rw [List.length_map]; show 1 + _ ≤ _; omega)), fun l1 nl1 => ?_⟩
    have hl1 : (upd H3 l1 (.lst ([V.non] ++ ps.map plV))) l1 = some (.lst ((none :: ps).map plV)) := upd_same
    have s4 : Same H3 (upd H3 l1 (.lst ([V.non] ++ ps.map plV))) := Same.new nl1
    have b4 := b3.put (o := .lst ([V.non] ++ ps.map plV)) (b3.ne nl1)
    generalize upd H3 l1 (.lst ([V.non] ++ ps.map plV)) = H4 at hl1 s4 b4 ⊢
    refine ⟨_, rfl, sz1, fun l2 nl2 => ?_⟩
    refine ⟨l1, l2, _, _, rfl, rfl, Same.at nl2 hl1, upd_same, Nat.le_of_lt (big (by rw [List.length_map]; show ps.length + 1 + 1 ≤ _; omega)), fun N nN => ?_⟩
    have hN : (upd (upd H4 l2 (.lst [.int now])) N (.lst ((none :: ps).map plV ++ [.int now]))) N = some (.lst ((none :: ps ++ [some now]).map plV)) := by
      rw [upd_same, List.map_append]
      rfl
    have s5 : Same H4 (upd (upd H4 l2 (.lst [.int now])) N (.lst ((none :: ps).map plV ++ [.int now]))) := (Same.new nl2).up nN
    have b5 := (b4.put (o := .lst [.int now]) (b4.ne nl2))
    have nNb := b5.ne nN
    replace b5 := b5.put (o := .lst ((none :: ps).map plV ++ [.int now])) nNb
    have f5 : Fr b H (upd (upd H4 l2 (.lst [.int now])) N (.lst ((none :: ps).map plV ++ [.int now]))) := ((((Fr.of s1).trans f2).trans f3).trans (.of s4)).trans (.of s5)
    generalize upd (upd H4 l2 (.lst [.int now])) N (.lst ((none :: ps).map plV ++ [.int now])) = H5 at hN s5 b5 f5 ⊢
    have hok' : ∀ p ∈ none :: ps ++ [some now], plOk p = true := fun p hp => by
      rcases List.mem_append.mp hp with hp | hp
      · rcases List.mem_cons.mp hp with rfl | hp
        · rfl
        · exact hok p hp
      · rw [List.mem_singleton.mp hp]; exact hnow
    have len : (none :: ps ++ [some now]).length = d.toNat + 2 := by rw [List.length_append, List.length_cons, hl]; rfl
    generalize none :: ps ++ [some now] = qs at hN hok' len
    refine ⟨by decide, fun fo nfo => ⟨_, _, rfl, ?_⟩⟩
    have nfb := b5.ne nfo
    have s6 : Same H5 (upd H5 fo (.lst [])) := Same.new nfo
    refine ⟨_, rfl, _, rfl, _, rfl, N, _, rfl, SqL.of (s6 _ _ hN), fun N2 nN2 => ?_⟩
    have s7 := s6.up nN2 (o := .lst (cutV (qs.map plV) (some 1) none))
    have hN2 : (upd (upd H5 fo (.lst [])) N2 (.lst (cutV (qs.map plV) (some 1) none))) N2 = some (.lst ((qs.drop 1).map plV)) := by
      rw [upd_same, show (some (1 : Int)) = some ((1 : Nat) : Int) from rfl, cut_lo, ← List.map_drop]
    have hfo := Same.at nN2 (o := .lst (cutV (qs.map plV) (some 1) none)) (show (upd H5 fo (.lst [])) fo = some (.lst []) from upd_same)
    have b6 := b5.put (o := .lst []) nfb
    have nN2b := b6.ne nN2
    replace b6 := b6.put (o := .lst (cutV (qs.map plV) (some 1) none)) nN2b
    have hfree : H fo = none := f5.free' nfb nfo
    generalize upd (upd H5 fo (.lst [])) N2 (.lst (cutV (qs.map plV) (some 1) none)) = H6 at s7 hN2 hfo b6 ⊢
    have hN6 := s7 _ _ hN
    refine ⟨N, N2, _, _, rfl, SqL.of hN6, SqL.of hN2, ?_⟩
    have f6 : Fr b H H6 := f5.trans (.of s7)
    have nNf : N ≠ fo := ne_of_none hN nfo
    have nN2f : N2 ≠ fo := fun z => by rw [z, upd_same] at nN2; cases nN2
    refine for_it (walk_zip (K := K) (a := N) (b := N2) (xs := qs.map plV) (ys := (qs.drop 1).map plV) (n := d.toNat + 1) (by rw [List.length_map, List.length_map, List.length_drop, len]; omega)) (fun i σ H' => Fr b H H' ∧ BoxAt H' b ∧ H' N = some (.lst (qs.map plV)) ∧ H' N2 = some (.lst ((qs.drop 1).map plV)) ∧ ∃ (zs : List (Addr × Ent)) (es : List Ent) (num : Int) (x6 x7 : Option V), σ = [some (.ref b), some (.int now), some (.int 2), some (.ref N), some (.int num), some (.ref fo), x6, x7, none] ∧ H' fo = some (.lst (refs zs)) ∧ Ents H' zs es ∧ es.length = i ∧ (∀ e ∈ es, EntB 50 e) ∧ 0 ≤ num ∧ num ≤ 2 * i)
      ⟨f6, b6, hN6, hN2, [], [], 0, none, none, rfl, hfo, .nil, rfl, (fun e he => by cases he), by omega, by omega⟩ (fun i σ H' _ p => ⟨SqL.of p.2.2.1, SqL.of p.2.2.2.1⟩) ?_ ?_
    · rintro i x σ H7 H8 hi ⟨f7, b7, g1, g2, zs, es, num, x6, x7, rfl, hF, hE, hel, heg, m0, m1⟩ ⟨T, v1, v2, rfl, hT, rfl, e1, e2⟩
      obtain ⟨p1, hp1, rfl⟩ : ∃ p1, p1 ∈ qs ∧ v1 = plV p1 := by
        obtain ⟨y, hy, e⟩ := List.mem_map.mp (List.mem_of_getElem? e1)
        exact ⟨y, hy, e.symm⟩
      obtain ⟨p2, hp2, rfl⟩ : ∃ p2, p2 ∈ qs ∧ v2 = plV p2 := by
        obtain ⟨y, hy, e⟩ := List.mem_map.mp (List.mem_of_getElem? e2)
        exact ⟨y, List.mem_of_mem_drop hy, e.symm⟩
      refine ⟨T, _, rfl, SqT.of upd_same, rfl, _, _, rfl, _, _, rfl, rfl, ?_⟩
      refine ⟨_, rfl, .inl ⟨rfl, _, SqL.of (Same.at hT hF)⟩, _, rfl, _, rfl, _, rfl, sz3, fun u nu => ?_⟩
      have zl : zs.length = i := by rw [hE.len, hel]
      have s8 : Same H7 (upd (upd H7 T (.tup [plV p1, plV p2])) u (.tup [.int num, plV p1, plV p2])) := (Same.new hT).up nu
      have hu8 : (upd (upd H7 T (.tup [plV p1, plV p2])) u (.tup [.int num, plV p1, plV p2])) u = some (.tup (entV (num, p1, p2))) := upd_same
      have f8 : Fr b H (upd (upd H7 T (.tup [plV p1, plV p2])) u (.tup [.int num, plV p1, plV p2])) := f7.trans (.of s8)
      generalize upd (upd H7 T (.tup [plV p1, plV p2])) u (.tup [.int num, plV p1, plV p2]) = H8 at s8 hu8 f8 ⊢
      refine ⟨fo, _, _, rfl, rfl, s8 _ _ hF, big (by rw [List.length_map, zl]; omega), ?_⟩
      have b8 := (b7.keep s8).put (o := .lst (refs zs ++ [.ref u])) nfb
      have hE8 := ((hE.keep s8).snoc hu8).lst (o := .lst (refs zs ++ [.ref u])) (s8 _ _ hF)
      refine ⟨_, rfl, _, _, rfl, rfl, _, rfl, _, rfl, b, 2, rfl, b8, by decide, by decide, fun d' H9 d0' d1' f9 b9 => ?_⟩
      refine ⟨_, _, rfl, rfl, (f8.put hfree).trans f9, b9, f9 _ _ (by rw [upd_ne nNf]; exact s8 _ _ g1) nNb, f9 _ _ (by rw [upd_ne nN2f]; exact s8 _ _ g2) nN2b, zs ++ [(u, (num, p1, p2))], es ++ [(num, p1, p2)], num + 1 + d', _, _, rfl, ?_, hE8.fr f9 b8, by rw [List.length_append, hel]; rfl, fun e he => ?_, by omega, by push_cast; omega⟩
      · rw [f9 _ _ upd_same nfb]
        show some (HO.lst (refs zs ++ [V.ref u])) = some (HO.lst (refs (zs ++ [(u, (num, p1, p2))])))
        rw [show refs (zs ++ [(u, ((num, p1, p2) : Ent))]) = refs zs ++ [V.ref u] from List.map_append]
      · rcases List.mem_append.mp he with he | he
        · exact heg e he
        · rw [List.mem_singleton.mp he]
          exact ⟨⟨m0, by show num ≤ 50; omega⟩, hok' _ hp1, hok' _ hp2⟩
    · rintro σ H7 ⟨f7, b7, g1, g2, zs, es, num, x6, x7, rfl, hF, hE, hel, heg, m0, m1⟩
      refine ⟨_, rfl, _, rfl, _, rfl, ?_⟩
      dsimp only [tNoPart]
      refine ⟨fo, _, rfl, SqL.of hF, fun p np => ?_⟩
      have zl : zs.length = es.length := hE.len
      have ec : cutV (refs zs) (some (-8)) none = refs (zs.drop ((refs zs).length - 8)) := by rw [show (some (-8 : Int)) = some (-((8 : Nat) : Int)) from rfl, cut_neg _ _ (by decide), refs_drop]
      rw [ec]
      have np' : H p = none := f7.free' (b7.ne np) np
      refine q p (es.drop ((refs zs).length - 8)) _ np' (f7.put np') (b7.put (b7.ne np)) ⟨_, upd_same, (hE.drop _).keep (Same.new np)⟩ ⟨fun z => ?_, ?_, fun e he => heg e (List.mem_of_mem_drop he)⟩
      · have := congrArg List.length z
        rw [List.length_drop, List.length_map, List.length_nil] at this
        omega
      · rw [List.length_drop, List.length_map]
        omega
end
end K49
namespace K49
open PySem L2
/-! ### a bent log -/
abbrev sLB : Stmt := topS 43
def spLB : Sp := fun vs H Q _ => ∃ (b l : Addr) (es : List Ent) (count : Int), vs = [.ref b, .ref l, .int count] ∧ BoxAt H b ∧ LogL H l es ∧ l ≠ b ∧ LogB 50 es ∧ 0 ≤ count ∧ count ≤ 90 ∧
  ∀ (p : Addr) (es' : List Ent) H', Fr b H H' → BoxAt H' b → LogL H' p es' → p ≠ b → LogG es' → Q (.ref p) H'
theorem pl7 : plOk (some 7) = true := by decide
theorem sz4 : 4 ≤ sizeLine := by decide
theorem SqL.logL {K : PySem.W.Frag} {H : Hp} {l : Addr} {zs : List (Addr × Ent)} (h : H l = some (.lst (refs zs))) : SqL K H l (refs zs) := SqL.of h
/-- log[:at] + [e] + log[at + 1:] -/
theorem mid {K : PySem.W.Frag} {σ : St} {H : Hp} {b l : Addr} {a : Nat} {zs : List (Addr × Ent)} {es : List Ent} {t : TE} {Q : VK} (h1 : σ[1]? = some (some (.ref l))) (h4 : σ[4]? = some (some (.int (a : Nat)))) (hb : BoxAt H b) (hl : H l = some (.lst (refs zs))) (hE : Ents H zs es) (nl : l ≠ b) (hg : LogB 50 es) (ha : a < es.length)
    (ht : ∀ H1, Same H H1 → ∀ R : VK, (∀ (u : Addr) (e : Ent) H2, Fr b H1 H2 → BoxAt H2 b → H2 u = some (.tup (entV e)) → EntG e → R (.ref u) H2) → t σ H1 R)
    (q : ∀ (p : Addr) (es' : List Ent) H', Fr b H H' → BoxAt H' b → LogL H' p es' → p ≠ b → LogG es' → Q (.ref p) H') :
    tOp rCat (tOp rCat (tSl (rSlL K) (tVar 1) tNoPart (tPart (tVar 4))) (tLst (tCons t tNil))) (tSl (rSlL K) (tVar 1) (tPart (tOp (rI0 fun i j => .int (i + j)) (tVar 4) (tC (.int 1)))) tNoPart) σ H Q := by
  obtain ⟨g1, g2, g3'⟩ := hg
  have g3 : ∀ e ∈ es, EntG e := fun e he => (g3' e he).mono (by decide)
  have lz : zs.length = es.length := hE.len
  have ec1 : cutV (refs zs) none (some ((a : Nat) : Int)) = refs (zs.take a) := by rw [cut_hi, refs_take]
  have ec2 : cutV (refs zs) (some (((a : Nat) : Int) + 1)) none = refs (zs.drop (a + 1)) := by rw [show ((a : Nat) : Int) + 1 = ((a + 1 : Nat) : Int) from rfl, cut_lo, refs_drop]
  refine ⟨_, h1, ?_⟩
  dsimp only [tNoPart]
  refine ⟨_, h4, _, rfl, l, _, rfl, SqL.of hl, fun p1 n1 => ?_⟩
  rw [ec1]
  have s1 : Same H (upd H p1 (.lst (refs (zs.take a)))) := Same.new n1
  have hp1 : (upd H p1 (.lst (refs (zs.take a)))) p1 = some (.lst (refs (zs.take a))) := upd_same
  have np1 := hb.ne n1
  generalize upd H p1 (.lst (refs (zs.take a))) = H1 at s1 hp1 ⊢
  refine ht H1 s1 _ fun u e H2 f2 b2 hu he => ?_
  refine ⟨sz1, fun p2 n2 => ?_⟩
  have s3 : Same H2 (upd H2 p2 (.lst [.ref u])) := Same.new n2
  have hp2 : (upd H2 p2 (.lst [.ref u])) p2 = some (.lst [.ref u]) := upd_same
  generalize upd H2 p2 (.lst [.ref u]) = H3 at s3 hp2 ⊢
  have hp13 := s3 _ _ (f2 _ _ hp1 np1)
  refine ⟨p1, p2, _, _, rfl, rfl, hp13, hp2, Nat.le_of_lt (big (by rw [List.length_map, List.length_take]; show _ + 1 ≤ _; omega)), fun p3 n3 => ?_⟩
  have s4 : Same H3 (upd H3 p3 (.lst (refs (zs.take a) ++ [.ref u]))) := Same.new n3
  have hp3 : (upd H3 p3 (.lst (refs (zs.take a) ++ [.ref u]))) p3 = some (.lst (refs (zs.take a) ++ [.ref u])) := upd_same
  generalize upd H3 p3 (.lst (refs (zs.take a) ++ [.ref u])) = H4 at s4 hp3 ⊢
  have f4 : Fr b H H4 := (((Fr.of s1).trans f2).trans (.of s3)).trans (.of s4)
  have b4 := b2.keep (s3.trans s4)
  refine ⟨_, h1, _, h4, _, _, rfl, rfl, _, rfl, ?_⟩
  dsimp only [tNoPart]
  refine ⟨l, _, rfl, SqL.of (f4 _ _ hl nl), fun p5 n5 => ?_⟩
  rw [ec2]
  have s5 : Same H4 (upd H4 p5 (.lst (refs (zs.drop (a + 1))))) := Same.new n5
  have hp5 : (upd H4 p5 (.lst (refs (zs.drop (a + 1))))) p5 = some (.lst (refs (zs.drop (a + 1)))) := upd_same
  generalize upd H4 p5 (.lst (refs (zs.drop (a + 1)))) = H5 at s5 hp5 ⊢
  refine ⟨p3, p5, _, _, rfl, rfl, s5 _ _ hp3, hp5, Nat.le_of_lt (big (by rw [List.length_append, List.length_map, List.length_map, List.length_take, List.length_drop]; show _ + 1 + _ ≤ _; omega)), fun p6 n6 => ?_⟩
  have f5 := f4.trans (.of s5)
  have b5 := b4.keep s5
  have hE6 := hE.fr (f5.trans (.of (Same.new n6 (o := .lst (refs (zs.take a) ++ [.ref u] ++ refs (zs.drop (a + 1))))))) hb
  have hu6 := Same.new n6 (o := .lst (refs (zs.take a) ++ [.ref u] ++ refs (zs.drop (a + 1)))) _ _ (((s3.trans s4).trans s5) _ _ hu)
  refine q p6 (es.take a ++ [e] ++ es.drop (a + 1)) _ (f5.trans (.of (Same.new n6))) (b5.keep (Same.new n6)) ⟨zs.take a ++ [(u, e)] ++ zs.drop (a + 1), ?_, ((hE6.take a).snoc hu6).app (hE6.drop (a + 1))⟩ (b5.ne n6) ⟨fun z => ?_, ?_, fun x hx => ?_⟩
  · rw [upd_same, ← refs_app, ← refs_app]
    rfl
  · have := congrArg List.length z
    rw [List.length_append, List.length_append, List.length_singleton, List.length_nil] at this
    omega
  · simp only [List.length_append, List.length_take, List.length_drop, List.length_singleton]
    omega
  · rcases List.mem_append.mp hx with hx | hx
    · rcases List.mem_append.mp hx with hx | hx
      · exact g3 x (List.mem_of_mem_take hx)
      · rw [List.mem_singleton.mp hx]; exact he
    · exact g3 x (List.mem_of_mem_drop hx)
section
variable {P : Program} {w : World} {K : PySem.W.Frag} {mg : Str → Option Value} {base : Heap}
abbrev nLB : List Str := ["box", "log", "count", "way", "at", "number", "old", "new"]
theorem scLB : FnScope nLB ["box", "log", "count"] (defScope sLB) := ⟨rfl, rfl, rfl, by decide +kernel, rfl, by decide +kernel, by decide +kernel⟩
theorem ok_lb (D : Def K mg "_law_bent" sLB ["box", "log", "count"]) (B : Blt mg) (OT : Ok P w K mg base CX0 1 "_law_take" ["box", "many"] spTake) (OP : Ok P w K mg base CX0 2 "_law_pick" ["box", "some"] (spPick K)) : Ok P w K mg base CX0 3 "_law_bent" ["box", "log", "count"] spLB := by
  refine D.ok fun F => F.ok scLB (fun vs H Q E h => ?_) (fun cdv A outer s H vs Q E hr h => ?_)
  · obtain ⟨b, l, es, count, rfl, _⟩ := h
    rfl
  · obtain ⟨b, l, es, count, rfl, hb, ⟨zs, hl, hE⟩, nl, hg, c0, c1, q⟩ := h
    refine ⟨_, pss_cons (ps_par (i := 3) (j := 4) (by rfl) scLB.nd rfl rfl (by decide) rfl rfl (pa_cons (c_fn OT hr (pa_cons (pv 0) (pa_cons pe_int pa_nil))) (pa_cons (c_fn OT hr (pa_cons (pv 0) (pa_cons (c_len B (pv 1)) pa_nil))) pa_nil)) (by rfl))
      (pss_cons (ps_asg (pe_ix ix_list (pv 1) (pv 4) (fun _ _ => rfl)) (pg_tup (by rfl) (pgs_cons (pg_name (i := 5) scLB.nd rfl (Or.inl rfl)) (pgs_cons (pg_name (i := 6) scLB.nd rfl (Or.inl rfl)) (pgs_cons (pg_name (i := 7) scLB.nd rfl (Or.inl rfl)) pgs_nil)))))
      (pss_cons (ps_if (pt_cmpR op_eq (pv 3) pe_int (nomark _)) (pss_one (ps_ret (pe_ifExp (pt_cmpR op_gt (c_len B (pv 1)) pe_int (nomark _)) (pe_op op_cat (pe_slice sl_list (pv 1) po_none (po_some (pv 4))) (pe_slice sl_list (pv 1) (po_some (pe_op op_add (pv 4) pe_int)) po_none)) (pv 1)))) pss_nil)
      (pss_cons (ps_if (pt_cmpR op_eq (pv 3) pe_int (nomark _)) (pss_one (ps_ret (pe_op op_cat (pe_op op_cat (pe_slice sl_list (pv 1) po_none (po_some (pv 4))) (pe_lst (pa_cons (pe_tup (pa_cons (pv 5) (pa_cons (pv 6) (pa_cons pe_int pa_nil)))) pa_nil))) (pe_slice sl_list (pv 1) (po_some (pe_op op_add (pv 4) pe_int)) po_none)))) pss_nil)
      (pss_cons (ps_if (pt_cmpR op_eq (pv 3) pe_int (nomark _)) (pss_one (ps_ret (pe_op op_cat (pe_op op_cat (pe_slice sl_list (pv 1) po_none (po_some (pv 4))) (pe_lst (pa_cons (pe_tup (pa_cons (pv 5) (pa_cons pe_int (pa_cons (pv 7) pa_nil)))) pa_nil))) (pe_slice sl_list (pv 1) (po_some (pe_op op_add (pv 4) pe_int)) po_none)))) pss_nil)
      (pss_cons (ps_if (pt_cmpR op_eq (pv 3) pe_int (nomark _)) (pss_one (ps_ret (pe_op op_cat (pe_op op_cat (pe_slice sl_list (pv 1) po_none (po_some (pv 4))) (pe_lst (pa_cons (pe_tup (pa_cons (c_fn OP hr (pa_cons (pv 0) (pa_cons (pe_lst (pa_cons (pe_op op_add (pv 5) pe_int) (pa_cons (c_max2 rfl B pe_int (pe_op op_sub (pv 5) pe_int)) (pa_cons (pv 2) (pa_cons (pe_op op_add (pv 2) pe_int) pa_nil))))) pa_nil))) (pa_cons (pv 6) (pa_cons (pv 7) pa_nil)))) pa_nil))) (pe_slice sl_list (pv 1) (po_some (pe_op op_add (pv 4) pe_int)) po_none)))) pss_nil)
      (pss_cons (ps_if (pt_cmpR op_eq (pv 3) pe_int (nomark _)) (pss_one (ps_ret (pe_revS (pv 1)))) pss_nil)
      (pss_cons (ps_if (pt_cmpR op_eq (pv 3) pe_int (nomark _)) (pss_one (ps_ret (pe_op op_cat (pe_op op_cat (pe_slice sl_list (pv 1) po_none (po_some (pv 4))) (pe_lst (pa_cons (pe_tup (pa_cons (pv 5) (pa_cons (pv 6) (pa_cons pe_non pa_nil)))) pa_nil))) (pe_slice sl_list (pv 1) (po_some (pe_op op_add (pv 4) pe_int)) po_none)))) pss_nil)
      (pss_cons (ps_if (pt_cmpR op_eq (pv 3) pe_int (nomark _)) (pss_one (ps_ret (pe_ifExp (pt_cmpR op_gt (c_len B (pv 1)) pe_int (nomark _)) (pe_slice sl_list (pv 1) (po_some pe_int) po_none) (pv 1)))) pss_nil)
      (pss_one (ps_ret (pv 1))))))))))), ?_⟩
    obtain ⟨g1, g2, g3'⟩ := id hg
    have g3 : ∀ e ∈ es, EntG e := fun e he => (g3' e he).mono (by decide)
    have lz : (refs zs).length = es.length := by rw [List.length_map, hE.len]
    have zl := hE.len
    have hp : 0 < es.length := List.length_pos_iff.mpr g1
    refine ⟨_, rfl, b, 10, rfl, hb, by decide, by decide, fun way H1 w0 w1 f1 b1 => ?_⟩
    have hl1 := f1 _ _ hl nl
    refine ⟨_, rfl, _, rfl, l, _, rfl, .inl (SqL.of hl1), b, _, rfl, b1, by omega, by omega, fun at' H2 a0 a1 f2 b2 => ⟨_, _, rfl, ?_⟩⟩
    have hl2 := f2 _ _ hl1 nl
    have f12 := f1.trans f2
    have hE2 := hE.fr f12 hb
    obtain ⟨a, rfl⟩ := Int.eq_ofNat_of_zero_le a0
    have ha : a < es.length := by rw [lz] at a1; omega
    obtain ⟨ea, _, hea, het⟩ := hE2.get (List.getElem?_eq_getElem ha)
    generalize hee : es[a] = e at hea het
    have heg5 : EntB 50 e := by rw [← hee]; exact g3' _ (List.getElem_mem ha)
    have heg : EntG e := heg5.mono (by decide)
    refine ⟨_, rfl, _, rfl, l, _, _, _, rfl, rfl, SqL.of hl2, atI_nat hea, ?_⟩
    refine ⟨ea, _, rfl, SqT.of het, rfl, _, _, rfl, _, _, rfl, _, _, rfl, rfl, ?_⟩
    have q2 : ∀ (p : Addr) (es' : List Ent) H', Fr b H2 H' → BoxAt H' b → LogL H' p es' → p ≠ b → LogG es' → Q (.ref p) H' := fun p es' H' f => q p es' H' (f12.trans f)
    have same : Q (.ref l) H2 := q2 l es H2 (Fr.refl _ _) b2 ⟨zs, hl2, hE2⟩ nl (hg.mono (by decide))
    have ways : ∀ k : Int, (V.int way = V.int k) → way = k := fun k z => by injection z
    clear q
    -- 0
    refine ⟨_, rfl, rfl, _, rfl, ite2 (fun _ => ?_) (fun _ => ?_)⟩
    · refine ⟨_, rfl, l, _, rfl, .inl (SqL.of hl2), _, _, rfl, rfl, _, rfl, ite2 (fun h => ?_) (fun _ => ⟨_, rfl, same⟩)⟩
      have h1 : 1 < es.length := by have := of_decide_eq_true h; rw [lz] at this; omega
      refine ⟨_, rfl, ?_⟩
      dsimp only [tNoPart]
      refine ⟨_, rfl, _, rfl, l, _, rfl, SqL.of hl2, fun p1 n1 => ?_⟩
      rw [show cutV (refs zs) none (some ((a : Nat) : Int)) = refs (zs.take a) by rw [cut_hi, refs_take]]
      have s1 : Same H2 (upd H2 p1 (.lst (refs (zs.take a)))) := Same.new n1
      refine ⟨_, rfl, _, rfl, _, _, rfl, rfl, _, rfl, ?_⟩
      dsimp only [tNoPart]
      refine ⟨l, _, rfl, SqL.of (s1 _ _ hl2), fun p2 n2 => ?_⟩
      rw [show cutV (refs zs) (some (((a : Nat) : Int) + 1)) none = refs (zs.drop (a + 1)) by rw [show ((a : Nat) : Int) + 1 = ((a + 1 : Nat) : Int) from rfl, cut_lo, refs_drop]]
      have s2 := s1.up n2 (o := .lst (refs (zs.drop (a + 1))))
      refine ⟨p1, p2, _, _, rfl, rfl, Same.at n2 upd_same, upd_same, Nat.le_of_lt (big (by rw [List.length_map, List.length_map, List.length_take, List.length_drop]; omega)), fun p3 n3 => ?_⟩
      have s3 := s2.up n3 (o := .lst (refs (zs.take a) ++ refs (zs.drop (a + 1))))
      refine q2 p3 (es.take a ++ es.drop (a + 1)) _ (.of s3) (b2.keep s3) ⟨zs.take a ++ zs.drop (a + 1), by rw [upd_same, ← refs_app], ((hE2.take a).app (hE2.drop (a + 1))).keep s3⟩ ((b2.keep s2).ne n3) ⟨fun z => ?_, ?_, fun x hx => ?_⟩
      · have := congrArg List.length z
        rw [List.length_append, List.length_take, List.length_drop, List.length_nil] at this
        omega
      · rw [List.length_append, List.length_take, List.length_drop]
        omega
      · rcases List.mem_append.mp hx with hx | hx
        · exact g3 x (List.mem_of_mem_take hx)
        · exact g3 x (List.mem_of_mem_drop hx)
    -- 1
    refine ⟨_, rfl, rfl, _, rfl, ite2 (fun _ => ?_) (fun _ => ?_)⟩
    · exact mid (K := K) rfl rfl b2 hl2 hE2 nl hg ha (fun H3 s3 R hR => ⟨_, rfl, _, rfl, sz3, fun u nu => hR u (e.1, e.2.1, some 7) _ (.of (Same.new nu)) ((b2.keep s3).keep (Same.new nu)) upd_same ⟨heg.1, heg.2.1, pl7⟩⟩) q2
    -- 2
    refine ⟨_, rfl, rfl, _, rfl, ite2 (fun _ => ?_) (fun _ => ?_)⟩
    · exact mid (K := K) rfl rfl b2 hl2 hE2 nl hg ha (fun H3 s3 R hR => ⟨_, rfl, _, rfl, sz3, fun u nu => hR u (e.1, some 7, e.2.2) _ (.of (Same.new nu)) ((b2.keep s3).keep (Same.new nu)) upd_same ⟨heg.1, pl7, heg.2.2⟩⟩) q2
    -- 3
    refine ⟨_, rfl, rfl, _, rfl, ite2 (fun _ => ?_) (fun _ => ?_)⟩
    · refine mid (K := K) rfl rfl b2 hl2 hE2 nl hg ha (fun H3 s3 R hR => ?_) q2
      refine ⟨_, rfl, _, rfl, _, _, rfl, rfl, _, rfl, _, _, rfl, rfl, _, _, rfl, _, rfl, _, rfl, _, _, rfl, rfl, sz4, fun p np => ?_⟩
      have b3 := b2.keep s3
      refine ⟨b, p, _, rfl, b3.keep (Same.new np), SqL.of upd_same, b3.ne np, (by intro z; cases z), (by show 4 < 1073741824; decide), fun v H4 hv f4 b4 => ?_⟩
      obtain ⟨n, rfl, hn⟩ : ∃ n : Int, v = .int n ∧ 0 ≤ n ∧ n ≤ 100 := by
        obtain ⟨⟨e0, e1⟩, _⟩ := heg5
        rcases List.mem_cons.mp hv with rfl | hv
        · exact ⟨e.1 + 1, rfl, by omega, by omega⟩
        rcases List.mem_cons.mp hv with rfl | hv
        · refine ⟨_, rfl, ?_⟩
          split <;> omega
        rcases List.mem_cons.mp hv with rfl | hv
        · exact ⟨count, rfl, c0, by omega⟩
        rcases List.mem_cons.mp hv with rfl | hv
        · exact ⟨count + 1, rfl, by omega, by omega⟩
        · cases hv
      refine ⟨_, rfl, _, rfl, sz3, fun u nu => hR u (n, e.2.1, e.2.2) _ (((Fr.of (Same.new np)).trans f4).trans (.of (Same.new nu))) (b4.keep (Same.new nu)) upd_same ⟨hn, heg.2⟩⟩
    -- 4
    refine ⟨_, rfl, rfl, _, rfl, ite2 (fun _ => ?_) (fun _ => ?_)⟩
    · refine ⟨_, rfl, l, _, rfl, SqL.of hl2, fun p np => ?_⟩
      have s3 := Same.new np (o := .lst (refs zs).reverse)
      refine q2 p es.reverse _ (.of s3) (b2.keep s3) ⟨zs.reverse, by rw [upd_same]; exact congrArg (fun x => some (HO.lst x)) (List.map_reverse).symm, ⟨by rw [List.map_reverse, hE2.eq], fun z hz => (hE2.keep s3).at' z (List.mem_reverse.mp hz)⟩⟩ (b2.ne np) ⟨fun z => g1 (List.reverse_eq_nil_iff.mp z), by rw [List.length_reverse]; exact g2, fun x hx => g3 x (List.mem_reverse.mp hx)⟩
    -- 5
    refine ⟨_, rfl, rfl, _, rfl, ite2 (fun _ => ?_) (fun _ => ?_)⟩
    · exact mid (K := K) rfl rfl b2 hl2 hE2 nl hg ha (fun H3 s3 R hR => ⟨_, rfl, _, rfl, sz3, fun u nu => hR u (e.1, e.2.1, none) _ (.of (Same.new nu)) ((b2.keep s3).keep (Same.new nu)) upd_same ⟨heg.1, heg.2.1, rfl⟩⟩) q2
    -- 6
    refine ⟨_, rfl, rfl, _, rfl, ite2 (fun _ => ?_) (fun _ => ?_)⟩
    · refine ⟨_, rfl, l, _, rfl, .inl (SqL.of hl2), _, _, rfl, rfl, _, rfl, ite2 (fun h => ?_) (fun _ => ⟨_, rfl, same⟩)⟩
      have h1 : 1 < es.length := by have := of_decide_eq_true h; rw [lz] at this; omega
      refine ⟨_, rfl, _, rfl, ?_⟩
      dsimp only [tNoPart]
      refine ⟨l, _, rfl, SqL.of hl2, fun p np => ?_⟩
      rw [show cutV (refs zs) (some 1) none = refs (zs.drop 1) by rw [show (some (1 : Int)) = some ((1 : Nat) : Int) from rfl, cut_lo, refs_drop]]
      have s3 := Same.new np (o := .lst (refs (zs.drop 1)))
      refine q2 p (es.drop 1) _ (.of s3) (b2.keep s3) ⟨zs.drop 1, upd_same, (hE2.drop 1).keep s3⟩ (b2.ne np) ⟨fun z => ?_, ?_, fun x hx => g3 x (List.mem_of_mem_drop hx)⟩
      · have := congrArg List.length z
        rw [List.length_drop, List.length_nil] at this
        omega
      · rw [List.length_drop]
        omega
    exact ⟨_, rfl, same⟩
end
end K49
namespace K49
open PySem L2
/-! ### the law's own look at a log, and its octets -/
abbrev sKL : Stmt := topS 44
abbrev sKO : Stmt := topS 45
def spKL : Sp := fun vs H Q _ => ∃ (a : Addr) (es : List Ent) (now count : Int), vs = [.ref a, .int now, .int count] ∧ LogL H a es ∧ ∀ H', Same H H' → Q (.bl (isLogP es now count)) H'
def spKO : Sp := fun vs H Q _ => ∃ (a : Addr) (es : List Ent), vs = [.ref a] ∧ LogL H a es ∧ es.length ≤ 8 ∧ ∀ (q : Addr) H', Same H H' → H' q = some (.tup ((logOct es).map V.int)) → Q (.ref q) H'
section
variable {P : Program} {w : World} {K : PySem.W.Frag} {mg : Str → Option Value} {base : Heap}
abbrev nKL : List Str := ["log", "now", "count", "number", "old", "new", "one", "other"]
theorem scKL : FnScope nKL ["log", "now", "count"] (defScope sKL) := ⟨rfl, rfl, rfl, by decide +kernel, rfl, by decide +kernel, by decide +kernel⟩
theorem ok_kl (D : Def K mg "_law_is_log" sKL ["log", "now", "count"]) (B : Blt mg) (hz : mg "zip" = none) : Ok P w K mg base CX0 1 "_law_is_log" ["log", "now", "count"] spKL := by
  refine D.ok fun F => F.ok scKL (fun vs H Q E h => ?_) (fun cdv A outer s H vs Q E hr h => ?_)
  · obtain ⟨a, es, now, count, rfl, _⟩ := h
    rfl
  · obtain ⟨a, es, now, count, rfl, ⟨zs, ha, hE⟩, k⟩ := h
    refine ⟨_, pss_cons (ps_if (PW.pt (pw_or (pt_cmpR op_eq (c_len B (pv 0)) pe_int (nomark _)) (pw_or (pt_cmpR op_gt (c_len B (pv 0)) pe_int (nomark _)) (pw_or1 (pt_cmpR op_ne (pe_ix ix_tup (pe_ix ix_list (pv 0) (pe_op op_sub (c_len B (pv 0)) pe_int) (fun _ _ => rfl)) pe_int (fun _ _ => rfl)) (pv 1) (nomark _)))))) (pss_one (ps_ret pe_bl)) pss_nil)
      (pss_cons (ps_for PassesOwn.never rfl (pi_list (pv 0)) (pg_tup (by rfl) (pgs_cons (pg_name (i := 3) scKL.nd rfl (Or.inl rfl)) (pgs_cons (pg_name (i := 4) scKL.nd rfl (Or.inl rfl)) (pgs_cons (pg_name (i := 5) scKL.nd rfl (Or.inl rfl)) pgs_nil))))
        (pss_one (ps_if (PW.pt (pw_or (pt_cmpR op_eq (pv 4) (pv 5) (nomark _)) (pw_or (pt_cmpR op_isN (pv 5) pe_non (nomark _)) (pw_or1 (pt_cmpR op_ge (pv 3) (pv 2) (nomark _)))))) (pss_one (ps_ret pe_bl)) pss_nil)))
      (pss_cons (ps_for PassesOwn.never rfl (pi_zip (by rfl) hz (pa_cons (pv 0) (pa_cons (pe_slice sl_list (pv 0) (po_some pe_int) po_none) pa_nil))) (pg_tup (by rfl) (pgs_cons (pg_name (i := 6) scKL.nd rfl (Or.inl rfl)) (pgs_cons (pg_name (i := 7) scKL.nd rfl (Or.inl rfl)) pgs_nil)))
        (pss_one (ps_if (PW.pt (pw_or (pt_cmpR op_ne (pe_ix ix_tup (pv 7) pe_int (fun _ _ => rfl)) (pe_ix ix_tup (pv 6) pe_int (fun _ _ => rfl)) (nomark _)) (pw_or1 (pt_cmpR op_le (pe_ix ix_tup (pv 7) pe_int (fun _ _ => rfl)) (pe_ix ix_tup (pv 6) pe_int (fun _ _ => rfl)) (nomark _))))) (pss_one (ps_ret pe_bl)) pss_nil)))
      (pss_one (ps_ret (pe_or (pe_cmpR op_isN (pe_ix ix_tup (pe_ix ix_list (pv 0) pe_int (fun _ _ => rfl)) pe_int (fun _ _ => rfl)) pe_non (nomark _)) (pe_one (pe_and (pe_cmpR op_eq (c_len B (pv 0)) pe_int (nomark _)) (pe_one (pe_cmpR op_gt (pe_ix ix_tup (pe_ix ix_list (pv 0) pe_int (fun _ _ => rfl)) pe_int (fun _ _ => rfl)) pe_int (nomark _)))))))))), ?_⟩
    have neg : ∀ {H' : Hp}, Same H H' → ¬ LogOk es now count → Q (.bl false) H' := fun s h => by
      have := k _ s
      rwa [isLog_f h] at this
    have lz : (refs zs).length = es.length := by rw [List.length_map, hE.len]
    have lz' : (((refs zs).length : Nat) : Int) = (es.length : Int) := by rw [lz]
    refine ⟨_, rfl, a, _, rfl, .inl (SqL.of ha), rfl, _, rfl, ?_⟩
    by_cases h0 : es.length = 0
    · rw [decide_eq_true (show V.int ((refs zs).length : Nat) = V.int 0 by rw [lz, h0]; rfl)]
      exact iteT (iteT (neg (Same.refl _) fun z => by have := z.pos; omega))
    rw [decide_eq_false (fun z => h0 (by injection z with z; rw [lz] at z; omega))]
    refine iteF ⟨_, rfl, a, _, rfl, .inl (SqL.of ha), _, _, rfl, rfl, _, rfl, ?_⟩
    rw [lz']
    by_cases h8 : es.length ≤ 8
    · rw [decide_eq_false (show ¬ ((es.length : Int) > 8) by omega)]
      refine iteF ?_
      obtain ⟨le, hle⟩ : ∃ e, es[es.length - 1]? = some e := ⟨_, List.getElem?_eq_getElem (by omega)⟩
      obtain ⟨la, _, hla, hlt⟩ := hE.get hle
      have hat : atI (refs zs) (((refs zs).length : Int) - 1) = some (.ref la) := by
        rw [lz', show ((es.length : Int) - 1) = ((es.length - 1 : Nat) : Int) by omega]
        exact atI_nat hla
      refine ⟨_, rfl, _, rfl, a, _, rfl, .inl (SqL.of ha), _, _, rfl, rfl, a, _, _, _, rfl, rfl, SqL.of ha, hat, ?_⟩
      refine ⟨la, _, _, _, rfl, rfl, SqT.of hlt, atI_nat (j := 2) rfl, _, rfl, scal_pi _ _, _, rfl, ?_⟩
      by_cases hl : le.2.2 = some now
      · rw [decide_eq_true (plV_int.mpr hl)]
        refine iteF ⟨_, rfl, a, rfl, ⟨_, SqL.of ha⟩, ?_⟩
        refine for_list (K := K) (xs := refs zs) (fun i σ H' => Same H H' ∧ (∀ j e, j < i → es[j]? = some e → ¬ Bad1 count e) ∧ ∃ (x3 x4 x5 : Option V), σ = [some (.ref a), some (.int now), some (.int count), x3, x4, x5, none, none]) ⟨Same.refl _, (fun j e z => absurd z (Nat.not_lt_zero _)), none, none, none, rfl⟩ (fun i σ H' _ p => SqL.of (p.1 _ _ ha)) ?_ ?_
        · rintro i x σ H1 hi ⟨s1, hb1, x3, x4, x5, rfl⟩
          obtain ⟨ea, e, rfl, he, hea, _⟩ := (hE.keep s1).of hi
          refine ⟨ea, _, rfl, SqT.of hea, rfl, _, _, rfl, _, _, rfl, _, _, rfl, rfl, ?_⟩
          have bad1 : Bad1 count e → Q (.bl false) H1 := fun hb => neg s1 fun z => z.one i e he hb
          refine ⟨_, rfl, _, rfl, scal_pl _ _, _, rfl, ?_⟩
          by_cases c1 : e.2.1 = e.2.2
          · rw [decide_eq_true (plV_inj.mpr c1)]
            exact iteT (iteT (bad1 (.inl c1)))
          rw [decide_eq_false (fun z => c1 (plV_inj.mp z))]
          refine iteF ⟨_, rfl, rfl, _, rfl, ?_⟩
          by_cases c2 : e.2.2 = none
          · rw [decide_eq_true (plV_non.mpr c2)]
            exact iteT (iteT (bad1 (.inr (.inl c2))))
          rw [decide_eq_false (fun z => c2 (plV_non.mp z))]
          refine iteF ⟨_, rfl, _, rfl, _, _, rfl, rfl, _, rfl, ?_⟩
          by_cases c3 : count ≤ e.1
          · rw [decide_eq_true c3]
            exact iteT (bad1 (.inr (.inr c3)))
          · rw [decide_eq_false c3]
            refine iteF ⟨s1, fun j e' hj he' => ?_, _, _, _, rfl⟩
            rcases Nat.lt_succ_iff_lt_or_eq.mp hj with hj | rfl
            · exact hb1 j e' hj he'
            · rw [he] at he'
              cases he'
              exact fun z => by
                rcases z with z | z | z
                · exact c1 z
                · exact c2 z
                · exact c3 z
        rintro σ H1 ⟨s1, hb1, x3, x4, x5, rfl⟩
        have n1 : ∀ (i : Nat) e, es[i]? = some e → ¬ Bad1 count e := fun i e he => hb1 i e (by rw [lz]; exact (List.getElem?_eq_some_iff.mp he).1) he
        refine ⟨_, rfl, _, rfl, _, rfl, a, _, rfl, SqL.of (s1 _ _ ha), fun p np => ?_⟩
        rw [show cutV (refs zs) (some 1) none = refs (zs.drop 1) by rw [show (some (1 : Int)) = some ((1 : Nat) : Int) from rfl, cut_lo, refs_drop]]
        have s2 : Same H (upd H1 p (.lst (refs (zs.drop 1)))) := s1.up np
        have hp2 : (upd H1 p (.lst (refs (zs.drop 1)))) p = some (.lst (refs (zs.drop 1))) := upd_same
        generalize upd H1 p (.lst (refs (zs.drop 1))) = H2 at s2 hp2 ⊢
        refine ⟨a, p, _, _, rfl, SqL.of (s2 _ _ ha), SqL.of hp2, ?_⟩
        have zl := hE.len
        refine for_it (walk_zip (K := K) (a := a) (b := p) (xs := refs zs) (ys := refs (zs.drop 1)) (n := es.length - 1) (by rw [List.length_map, List.length_map, List.length_drop, zl]; omega)) (fun i σ H' => Same H2 H' ∧ (∀ j d e, j < i → es[j]? = some d → es[j + 1]? = some e → ¬ Bad2 d e) ∧ ∃ (x3 x4 x5 x6 x7 : Option V), σ = [some (.ref a), some (.int now), some (.int count), x3, x4, x5, x6, x7])
          ⟨Same.refl _, (fun j d e z => absurd z (Nat.not_lt_zero _)), x3, x4, x5, none, none, rfl⟩ (fun i σ H' _ p => ⟨SqL.of (p.1 _ _ (s2 _ _ ha)), SqL.of (p.1 _ _ hp2)⟩) ?_ ?_
        · rintro i x σ H3 H4 hi ⟨s3, hb2, x3, x4, x5, x6, x7, rfl⟩ ⟨T, v1, v2, rfl, hT, rfl, e1, e2⟩
          have s23 := s2.trans s3
          obtain ⟨da, d, rfl, hd, hda, _⟩ := (hE.keep s23).of e1
          obtain ⟨ea, e, rfl, he, hea, _⟩ := ((hE.drop 1).keep s23).of e2
          rw [List.getElem?_drop, Nat.add_comm] at he
          refine ⟨T, _, rfl, SqT.of upd_same, rfl, _, _, rfl, _, _, rfl, rfl, ?_⟩
          have s4 := s23.up hT (o := .tup [.ref da, .ref ea])
          have bad2 : Bad2 d e → Q (.bl false) (upd H3 T (.tup [.ref da, .ref ea])) := fun hb => neg s4 fun z => z.two i d e hd he hb
          refine ⟨_, rfl, ea, _, _, _, rfl, rfl, SqT.of (Same.at hT hea), atI_nat (j := 1) rfl, _, rfl, da, _, _, _, rfl, rfl, SqT.of (Same.at hT hda), atI_nat (j := 2) rfl, scal_pl _ _, _, rfl, ?_⟩
          by_cases c4 : e.2.1 = d.2.2
          · rw [decide_eq_true (plV_inj.mpr c4)]
            refine iteF ⟨_, rfl, ea, _, _, _, rfl, rfl, SqT.of (Same.at hT hea), atI_nat (j := 0) rfl, _, rfl, da, _, _, _, rfl, rfl, SqT.of (Same.at hT hda), atI_nat (j := 0) rfl, _, _, rfl, rfl, _, rfl, ?_⟩
            by_cases c5 : e.1 ≤ d.1
            · rw [decide_eq_true c5]
              exact iteT (bad2 (.inr c5))
            · rw [decide_eq_false c5]
              refine iteF ⟨s3.up hT, fun j d' e' hj hd' he' => ?_, _, _, _, _, _, rfl⟩
              rcases Nat.lt_succ_iff_lt_or_eq.mp hj with hj | rfl
              · exact hb2 j d' e' hj hd' he'
              · rw [hd] at hd'; cases hd'
                rw [he] at he'; cases he'
                exact fun z => Or.elim z (fun z => z c4) c5
          · rw [decide_eq_false (fun z => c4 (plV_inj.mp z))]
            exact iteT (iteT (bad2 (.inl c4)))
        rintro σ H3 ⟨s3, hb2, x3, x4, x5, x6, x7, rfl⟩
        have s23 := s2.trans s3
        have n2 : ∀ (i : Nat) d e, es[i]? = some d → es[i + 1]? = some e → ¬ Bad2 d e := fun i d e hd he => hb2 i d e (by have := (List.getElem?_eq_some_iff.mp he).1; omega) hd he
        obtain ⟨f, hf⟩ : ∃ e, es[0]? = some e := ⟨_, List.getElem?_eq_getElem (by omega)⟩
        obtain ⟨fa, _, hfa, hft⟩ := (hE.keep s23).get hf
        have ha3 := s23 _ _ ha
        have fin : ∀ b : Bool, (b = true ↔ (f.2.1 = none ∨ (es.length = 8 ∧ 0 < f.1))) → Q (.bl b) H3 := fun b hb => by
          have k' := k H3 s23
          by_cases hh : f.2.1 = none ∨ (es.length = 8 ∧ 0 < f.1)
          · rw [isLog_t ⟨by omega, h8, ⟨le, hle, hl⟩, n1, n2, f, hf, hh⟩] at k'
            rw [hb.mpr hh]; exact k'
          · rw [isLog_f (fun z => by obtain ⟨g, hg, hg2⟩ := z.first; rw [hf] at hg; cases hg; exact hh hg2)] at k'
            cases b with
            | false => exact k'
            | true => exact absurd (hb.mp rfl) hh
        refine ⟨_, rfl, a, _, _, _, rfl, rfl, SqL.of ha3, atI_nat (j := 0) hfa, fa, _, _, _, rfl, rfl, SqT.of hft, atI_nat (j := 1) rfl, rfl, _, rfl, ?_⟩
        by_cases c1 : f.2.1 = none
        · rw [decide_eq_true (plV_non.mpr c1)]
          exact fin true ⟨fun _ => .inl c1, fun _ => rfl⟩
        · rw [decide_eq_false (fun z => c1 (plV_non.mp z))]
          refine ⟨_, rfl, a, _, rfl, .inl (SqL.of ha3), rfl, _, rfl, ?_⟩
          by_cases c2 : es.length = 8
          · rw [decide_eq_true (show V.int ((refs zs).length : Nat) = V.int 8 by rw [lz, c2]; rfl)]
            refine ⟨_, rfl, a, _, _, _, rfl, rfl, SqL.of ha3, atI_nat (j := 0) hfa, fa, _, _, _, rfl, rfl, SqT.of hft, atI_nat (j := 0) rfl, _, _, rfl, rfl, ?_⟩
            exact fin _ ⟨fun z => .inr ⟨c2, of_decide_eq_true z⟩, fun z => Or.elim z (fun z => absurd z c1) fun z => decide_eq_true z.2⟩
          · rw [decide_eq_false (fun z => c2 (by injection z with z; rw [lz] at z; omega))]
            exact fin false ⟨(fun z => by cases z), fun z => Or.elim z (fun z => absurd z c1) fun z => absurd z.1 c2⟩
      · rw [decide_eq_false (fun z => hl (plV_int.mp z))]
        refine iteT (neg (Same.refl _) fun z => ?_)
        obtain ⟨e, he, hn⟩ := z.last
        rw [hle] at he
        cases he
        exact hl hn
    · rw [decide_eq_true (show ((es.length : Int) > 8) by omega)]
      exact iteT (iteT (neg (Same.refl _) fun z => h8 z.few))
end
end K49
namespace K49
open PySem L2
section
variable {P : Program} {w : World} {K : PySem.W.Frag} {mg : Str → Option Value} {base : Heap}
abbrev nKO : List Str := ["log", "found", "number", "old", "new", "place"]
theorem scKO : FnScope nKO ["log"] (defScope sKO) := ⟨rfl, rfl, rfl, by decide +kernel, rfl, by decide +kernel, by decide +kernel⟩
theorem ok_ko (D : Def K mg "_law_octets" sKO ["log"]) (ON : Ok P w K mg base CX0 1 "_law_name" ["name"] spNm) : Ok P w K mg base CX0 2 "_law_octets" ["log"] spKO := by
  refine D.ok fun F => F.ok scKO (fun vs H Q E h => ?_) (fun cdv A outer s H vs Q E hr h => ?_)
  · obtain ⟨a, es, rfl, _⟩ := h
    rfl
  · obtain ⟨a, es, rfl, ⟨zs, ha, hE⟩, hl, k⟩ := h
    refine ⟨_, pss_cons (ps_set (i := 1) scKO.nd rfl (.inl rfl) (pe_tup pa_nil))
      (pss_cons (ps_for PassesOwn.never rfl (pi_list (pv 0)) (pg_tup (by rfl) (pgs_cons (pg_name (i := 2) scKO.nd rfl (Or.inl rfl)) (pgs_cons (pg_name (i := 3) scKO.nd rfl (Or.inl rfl)) (pgs_cons (pg_name (i := 4) scKO.nd rfl (Or.inl rfl)) pgs_nil))))
        (pss_cons (ps_set (i := 1) scKO.nd rfl (.inl rfl) (pe_op op_catA (pv 1) (c_fn ON hr (pa_cons (pv 2) pa_nil))))
        (pss_one (ps_for PassesOwn.never rfl (pi_tup (pe_tup (pa_cons (pv 3) (pa_cons (pv 4) pa_nil)))) (pg_name (i := 5) scKO.nd rfl (Or.inl rfl))
          (pss_one (ps_set (i := 1) scKO.nd rfl (.inl rfl) (pe_op op_catA (pv 1) (pe_ifExp (pt_cmpR op_isN (pv 5) pe_non (nomark _)) (pe_op op_repT (pe_tup (pa_cons pe_int pa_nil)) pe_int) (pe_op op_catA (pe_tup (pa_cons pe_int pa_nil)) (c_fn ON hr (pa_cons (pv 5) pa_nil)))))))))))
      (pss_one (ps_ret (pv 1)))), ?_⟩
    refine ⟨by decide, fun t nt => ?_⟩
    have s0 : Same H (upd H t (.tup [])) := Same.new nt
    refine ⟨_, rfl, a, rfl, ⟨_, SqL.of (s0 _ _ ha)⟩, ?_⟩
    have zl := hE.len
    refine for_list (K := K) (xs := refs zs) (fun i σ H' => Same H H' ∧ ∃ (q : Addr) (x2 x3 x4 x5 : Option V), σ = [some (.ref a), some (.ref q), x2, x3, x4, x5] ∧ H' q = some (.tup ((logOct (es.take i)).map V.int))) ⟨s0, t, none, none, none, none, rfl, upd_same⟩ (fun i σ H' _ p => SqL.of (p.1 _ _ ha)) ?_ ?_
    · rintro i x σ H1 hx ⟨s1, q, x2, x3, x4, x5, rfl, hq⟩
      obtain ⟨ea, e, rfl, he, hea, _⟩ := (hE.keep s1).of hx
      have hi : i < es.length := (List.getElem?_eq_some_iff.mp he).1
      have ltk : (es.take i).length = i := by rw [List.length_take]; omega
      refine ⟨ea, _, rfl, SqT.of hea, rfl, _, _, rfl, _, _, rfl, _, _, rfl, rfl, ?_⟩
      refine ⟨_, rfl, _, rfl, e.1, rfl, fun q2 H2 s2 hq2 => ?_⟩
      refine catA_of (s2 _ _ hq) hq2 (by rw [List.length_map, List.length_map, be_length, logOct_length, ltk]; omega) fun q3 H3 s3 hq3 => ?_
      rw [← List.map_append] at hq3
      refine ⟨_, rfl, _, rfl, sz2, fun p np => ⟨p, rfl, ⟨_, SqT.of upd_same⟩, ?_⟩⟩
      have s13 := (s2.trans s3).up np (o := .tup [plV e.2.1, plV e.2.2])
      have hp : (upd H3 p (.tup [plV e.2.1, plV e.2.2])) p = some (.tup [plV e.2.1, plV e.2.2]) := upd_same
      have hq4 := Same.at np (o := .tup [plV e.2.1, plV e.2.2]) hq3
      generalize upd H3 p (.tup [plV e.2.1, plV e.2.2]) = H4 at s13 hp hq4 ⊢
      refine for_tup (K := K) (xs := [plV e.2.1, plV e.2.2]) (fun j σ H' => Same H4 H' ∧ ∃ (q : Addr) (x5 : Option V), σ = [some (.ref a), some (.ref q), some (.int e.1), some (plV e.2.1), some (plV e.2.2), x5] ∧ H' q = some (.tup ((logOct (es.take i) ++ be 8 e.1 ++ (([e.2.1, e.2.2].take j).flatMap plOct)).map V.int))) ⟨Same.refl _, q3, x5, rfl, by rw [hq4]; simp⟩ (fun j σ H' _ p => SqT.of (p.1 _ _ hp)) ?_ ?_
      · rintro j y σ H5 hy ⟨s5, q5, x5, rfl, hq5⟩
        obtain ⟨pl, hpl, rfl⟩ : ∃ pl, [e.2.1, e.2.2][j]? = some pl ∧ y = plV pl := by
          match j, hy with
          | 0, hy => cases hy; exact ⟨_, rfl, rfl⟩
          | 1, hy => cases hy; exact ⟨_, rfl, rfl⟩
        have et : [e.2.1, e.2.2].take (j + 1) = [e.2.1, e.2.2].take j ++ [pl] := by rw [List.take_succ, hpl]; rfl
        have lfl : ((([e.2.1, e.2.2].take j).flatMap plOct)).length ≤ 18 := by
          match j with
          | 0 => simp
          | 1 => show (plOct _ ++ []).length ≤ _; rw [List.append_nil, plOct_length]; omega
          | j + 2 => rw [List.take_of_length_le (by show 2 ≤ j + 2; omega)]; show (plOct _ ++ (plOct _ ++ [])).length ≤ _; rw [List.append_nil, List.length_append, plOct_length, plOct_length]; omega
        have fin : ∀ (q6 : Addr) H6, Same H5 H6 → H6 q6 = some (.tup ((plOct pl).map V.int)) → rCatA K (.ref q5) (.ref q6) H6 fun v H7 => Same H4 H7 ∧ ∃ (q : Addr) (x5 : Option V), [some (.ref a), some v, some (.int e.1), some (plV e.2.1), some (plV e.2.2), some (plV pl)] = [some (.ref a), some (.ref q), some (.int e.1), some (plV e.2.1), some (plV e.2.2), x5] ∧ H7 q = some (.tup ((logOct (es.take i) ++ be 8 e.1 ++ (([e.2.1, e.2.2].take (j + 1)).flatMap plOct)).map V.int)) := by
          intro q6 H6 s6 hq6
          refine catA_of (s6 _ _ hq5) hq6 (by rw [List.length_map, List.length_map, plOct_length, List.length_append, List.length_append, be_length, logOct_length, ltk]; omega) fun q7 H7 s7 hq7 => ⟨(s5.trans s6).trans s7, q7, _, rfl, ?_⟩
          rw [hq7, ← List.map_append, et, List.flatMap_append]
          simp
        refine ⟨_, rfl, ?_⟩
        cases pl with
        | none =>
          refine ⟨_, rfl, rfl, _, rfl, iteT ⟨by decide, fun u nu => ?_⟩⟩
          refine ⟨u, 9, _, rfl, rfl, SqT.of upd_same, (by intro z; cases z), by decide, by decide, by decide, fun q6 nq6 => ?_⟩
          exact fin q6 _ ((Same.new nu).up nq6) upd_same
        | some v =>
          refine ⟨_, rfl, rfl, _, rfl, iteF ⟨by decide, fun u nu => ?_⟩⟩
          refine ⟨_, rfl, v, rfl, fun q6 H6 s6 hq6 => ?_⟩
          refine catA_of (xs := [.int 1]) (s6 _ _ upd_same) hq6 (by rw [List.length_map, be_length]; decide) fun q7 H7 s7 hq7 => ?_
          exact fin q7 _ (((Same.new nu).trans s6).trans s7) hq7
      · rintro σ H5 ⟨s5, q5, x5, rfl, hq5⟩
        refine ⟨(s1.trans s13).trans s5, q5, _, _, _, _, rfl, ?_⟩
        have e1 : es.take (i + 1) = es.take i ++ [e] := by rw [List.take_succ, he]; rfl
        rw [hq5, e1, logOct_snoc]
        unfold entOct
        simp
    · rintro σ H1 ⟨s1, q, x2, x3, x4, x5, rfl, hq⟩
      rw [List.length_map, zl, List.take_length] at hq
      exact ⟨_, rfl, k q _ s1 hq⟩
end
end K49
namespace K49
open PySem L2
/-! ### what is due -/
abbrev sKD : Stmt := topS 46
abbrev nKD : List Str := ["pairs", "logs", "count", "ref", "told", "entry"]
noncomputable def dueD (s : MSt) : PyData := match firstBad s with
  | some r => .tuple [.str "broken", rowD (76 :: r)]
  | none => .tuple [.str "told", toldD s]
def spKD (K : PySem.W.Frag) : Sp := fun vs H Q _ => ∃ (d1 d2 : Addr) (s : MSt), vs = [.ref d1, .ref d2, .int s.count] ∧ MOk s 5 ∧ (∀ e ∈ s.logs, e.2.length ≤ 8) ∧ RD rInt.R H d1 s.found ∧ RD rLogL.R H d2 s.logs ∧ ∀ (p : Addr) H', Same H H' → Dp K H' (.ref p) (dueD s) → Q (.ref p) H'
abbrev scpR : Scope := { kind := .function, names := [((".0" : Str), .local), ("ref", .local), ("tuple", .globalImplicit), ("logs", .cell)], isGenerator := false, isCoroutine := false }
def TupK (H H' : Hp) : Prop := ∀ c xs, H c = some (.tup xs) → H' c = some (.tup xs)
theorem TupK.refl (H : Hp) : TupK H H := fun _ _ h => h
theorem TupK.of {H H' : Hp} (s : Same H H') : TupK H H' := fun c xs h => s c _ h
theorem TupK.trans {H H1 H2 : Hp} (x : TupK H H1) (y : TupK H1 H2) : TupK H H2 := fun c xs h => y c xs (x c xs h)
theorem TupK.up {H : Hp} {D : Addr} {ys : List V} {o : HO} (h : H D = some (.lst ys)) : TupK H (upd H D o) := fun c xs hc => by rw [upd_ne (ne_of hc h (by intro z; cases z))]; exact hc
theorem Ents.tupK {H H' : Hp} {zs : List (Addr × Ent)} {es : List Ent} (h : Ents H zs es) (k : TupK H H') : Ents H' zs es := ⟨h.eq, fun z hz => k _ _ (h.at' z hz)⟩
/-- a pair of a row and a log's tuple -/
def PL (H : Hp) (y : Addr × List Int × List Ent) : Prop := ∃ q t zs, H y.1 = some (.tup [.ref q, .ref t]) ∧ H q = some (.tup (y.2.1.map V.int)) ∧ H t = some (.tup (refs zs)) ∧ Ents H zs y.2.2
theorem PL.keep {H H' : Hp} {y : Addr × List Int × List Ent} (h : PL H y) (k : TupK H H') : PL H' y := let ⟨q, t, zs, h1, h2, h3, h4⟩ := h; ⟨q, t, zs, k _ _ h1, k _ _ h2, k _ _ h3, h4.tupK k⟩
theorem dp_PLs {K : PySem.W.Frag} {H : Hp} : ∀ (ys : List (Addr × List Int × List Ent)), (∀ y ∈ ys, PL H y) → DpAll K H (refs ys) (ys.map fun y => .tuple [rowD y.2.1, logD y.2.2])
  | [], _ => .nil
  | y :: ys, h => by
    obtain ⟨q, t, zs, h1, h2, h3, h4⟩ := h y (List.mem_cons_self ..)
    exact .cons (.tup (SqT.of h1) (.cons (dp_row h2) (.cons (dp_log h3 h4) .nil))) (dp_PLs ys fun z hz => h z (List.mem_cons_of_mem _ hz))
theorem getR_mem {α : Type} {l : List (List Int × α)} {k : List Int} {a : α} (nd : (keysR l).Nodup) (h : (k, a) ∈ l) : getR l k = some a := by
  induction l with
  | nil => cases h
  | cons x l ih =>
    have nd' : x.1 ∉ keysR l ∧ (keysR l).Nodup := List.nodup_cons.mp nd
    rcases List.mem_cons.mp h with e | h2
    · rw [← e]
      unfold getR
      rw [List.find?_cons_of_pos (by simp)]
      rfl
    · have : ¬ x.1 = k := fun e => nd'.1 (List.mem_map.mpr ⟨(k, a), h2, e.symm⟩)
      have e2 : getR (x :: l) k = getR l k := by
        unfold getR
        rw [List.find?_cons_of_neg (by simp [this])]
      rw [e2]
      exact ih nd'.2 h2
theorem isKeys_rows {H : Hp} : ∀ (lv : List (List Int × V)) (bs : List Addr), IsKeys H (rowsKV lv) bs → ∃ ks : List (Addr × List Int), ks.map (fun p => V.ref p.1) = bs.map V.ref ∧ ks.map (·.2) = lv.map (·.1) ∧ ∀ p ∈ ks, H p.1 = some (.tup (p.2.map V.int))
  | [], [], _ => ⟨[], rfl, rfl, fun p hp => by cases hp⟩
  | [], _ :: _, h => by cases h
  | _ :: _, [], h => by cases h
  | e :: lv, b :: bs, h => by
    cases h with
    | cons h t =>
      obtain ⟨ks, h1, h2, h3⟩ := isKeys_rows lv bs t
      refine ⟨(b, e.1) :: ks, by rw [List.map_cons, List.map_cons, h1], by rw [List.map_cons, List.map_cons, h2], fun p hp => ?_⟩
      rcases List.mem_cons.mp hp with rfl | hp
      · rw [← row_kV]; exact h
      · exact h3 p hp
theorem range_get {α : Type} (f : α → V) (d : V) (xs : List α) : (List.range xs.length).map (fun i => ((xs.map f)[i]?).getD d) = xs.map f := by
  apply List.ext_getElem?
  intro i
  rw [List.getElem?_map]
  by_cases h : i < xs.length
  · rw [List.getElem?_range h, List.getElem?_map, List.getElem?_eq_getElem h]
    show some ((((xs.map f)[i]?)).getD d) = some (f xs[i])
    rw [List.getElem?_map, List.getElem?_eq_getElem h]
    rfl
  · rw [List.getElem?_eq_none (by rw [List.length_range]; omega), List.getElem?_eq_none (by rw [List.length_map]; omega)]
    rfl
theorem hu70_of {A : Around} {k : Nat} (hr : Room k A) : A.units + 70 < cLine := by have := hr.un; omega
section
variable {P : Program} {w : World} {K : PySem.W.Frag} {mg : Str → Option Value} {base : Heap}
theorem c_listdT {X : Cx} {e : Expr} {te : TE} {p pos : Pos} (hc : X.calm = true) (B : Blt X.mg) (he : PE X e te) (hg : Gl X "list" := by rfl) (h1 : starEach (e :: []) X.env = (false, eval e X.env) :: starEach [] X.env := by rfl) (h2 : (backTo pos (starEach [] X.env)).any (·.1) = false := by rfl) :
    PE X (.Call (.Name "list" p) [e] [] pos) (tCB (fun xs H Q => ∃ d kvs, xs = [V.ref d] ∧ Rd H d (.dT kvs) ∧ ∀ p bs, H p = none → IsKeys H kvs bs → Q (.ref p) (upd H p (.lst (bs.map V.ref)))) (tCons te tNil)) := pe_callTy (call_list_dT hc) hg B.list (by decide +kernel) (pa_cons he pa_nil h1) (by decide) (by decide) h1 h2
theorem c_setT {X : Cx} {e : Expr} {te : TE} {p pos : Pos} (hc : X.calm = true) (hu : X.A.units + 64 < cLine) (B : Blt X.mg) (he : PE X e te) (hg : Gl X "set" := by rfl) (h1 : starEach (e :: []) X.env = (false, eval e X.env) :: starEach [] X.env := by rfl) (h2 : (backTo pos (starEach [] X.env)).any (·.1) = false := by rfl) :
    PE X (.Call (.Name "set" p) [e] [] pos) (tCB (rSetOfT X.K X.prog X.w) (tCons te tNil)) := pe_callTy (cr_setOfT hc hu) hg B.set (by decide +kernel) (pa_cons he pa_nil h1) (by decide) (by decide) h1 h2
theorem c_sortedSR {X : Cx} {e : Expr} {te : TE} {p pos : Pos} (hc : X.calm = true) (hu : X.A.units + 70 < cLine) (B : Blt X.mg) (he : PE X e te) (hg : Gl X "sorted" := by rfl) (h1 : starEach (e :: []) X.env = (false, eval e X.env) :: starEach [] X.env := by rfl) (h2 : (backTo pos (starEach [] X.env)).any (·.1) = false := by rfl) :
    PE X (.Call (.Name "sorted" p) [e] [] pos) (tCB (rSortedSR X.K X.prog X.w) (tCons te tNil)) := pe_callB (cr_sortedSR hc hu) hg B.sorted (by decide +kernel) (pa_cons he pa_nil h1) (by decide) (by decide) h1 h2
theorem scKD : FnScope nKD ["pairs", "logs", "count"] (defScope sKD) := ⟨rfl, rfl, rfl, by decide +kernel, rfl, by decide +kernel, by decide +kernel⟩
theorem ok_kd (D : Def K mg "_law_due" sKD ["pairs", "logs", "count"]) (B : Blt mg) (OK : Ok P w K mg base CX0 1 "_law_is_log" ["log", "now", "count"] spKL) : Ok P w K mg base CX0 2 "_law_due" ["pairs", "logs", "count"] (spKD K) := by
  refine D.ok fun F => F.ok scKD (fun vs H Q E h => ?_) (fun cdv A outer s0 H vs Q E hr h => ?_)
  · obtain ⟨d1, d2, s, rfl, _⟩ := h
    rfl
  · obtain ⟨d1, d2, s, rfl, M, h8, hd1, hd2, k⟩ := h
    have hu := hu_of hr
    have hu70 := hu70_of hr
    refine ⟨_, pss_cons (ps_for PassesOwn.never rfl (pi_list (c_sortedSR rfl hu70 B (c_setT rfl hr.units B (pe_op op_cat (c_listdT rfl B (pv 0)) (c_listdT rfl B (pv 1)))))) (pg_name (i := 3) scKD.nd rfl (Or.inl rfl))
        (pss_one (ps_if (PW.pt (pw_or (pt_cmp (pc_dnotin hu (pv 3) (pv 0))) (pw_or (pt_cmp (pc_dnotin hu (pv 3) (pv 1))) (pw_or1 (pt_not (pt_val (c_fn OK hr (pa_cons (pe_dget hu (pv 1) (pv 3) (fun _ _ => rfl)) (pa_cons (pe_dget hu (pv 0) (pv 3) (fun _ _ => rfl)) (pa_cons (pv 2) pa_nil))))))))))
          (pss_one (ps_ret (pe_tup (pa_cons pe_str (pa_cons (pe_op op_catA (pe_tup (pa_cons pe_int pa_nil)) (pv 3)) pa_nil))))) pss_nil)))
      (pss_cons (ps_set (i := 4) scKD.nd rfl (.inl rfl) (c_tuple B (pe_lc (own := [("ref", 3)]) (g := gName 3) (by rfl) scKD.nd (pi_list (c_sortedDT rfl hu70 B (pv 1))) (blkOk_by (own := [("ref", 3)]) (N := nKD) (sc := defScope sKD) (by decide +kernel)) (fun _ _ _ _ _ => pg_name (i := 3) scKD.nd rfl (Or.inl rfl))
          (fun _ _ _ _ _ => pts_nil) (fun _ _ _ _ _ => pe_tup (pa_cons (pv 3) (pa_cons (c_tupleK (K := K) rfl B (pe_lc (own := [("entry", 5)]) (g := gName 5) (by rfl) scKD.nd (pi_listK (K := K) rfl (by exact pe_dget hu (pv 1) (pv 3) (fun _ _ => rfl))) (blkOk_by (own := [("entry", 5)]) (N := nKD) (sc := scpR) (by decide +kernel)) (fun _ _ _ _ _ => pg_name (i := 5) scKD.nd rfl (Or.inl rfl))
            (fun _ _ _ _ _ => pts_nil) (fun _ _ _ _ _ => c_tupleK (K := K) rfl B (pv 5)))) pa_nil))))))
      (pss_one (ps_ret (pe_tup (pa_cons pe_str (pa_cons (pe_tup (pa_cons (c_tuple B (c_sortedItT rfl hu70 B (c_itemsT (pv 0)))) (pa_cons (pv 4) (pa_cons (pv 2) pa_nil)))) pa_nil)))))), ?_⟩
    obtain ⟨lv1, h1, p1⟩ := id hd1
    obtain ⟨lv2, h2, p2⟩ := id hd2
    have l1 : lv1.length = s.found.length := Paired.length p1
    have l2 : lv2.length = s.logs.length := Paired.length p2
    have mlf := M.lf
    have mll := M.ll
    have k1 := paired_keys p1
    have k2 := paired_keys p2
    refine ⟨_, rfl, d1, _, rfl, .inl h1, fun v1 bs1 nv1 ik1 => ?_⟩
    have s1 : Same H (upd H v1 (.lst (bs1.map V.ref))) := Same.new nv1
    refine ⟨_, rfl, d2, _, rfl, .inl (s1 _ _ h2), fun v2 bs2 nv2 ik2 => ?_⟩
    obtain ⟨ks1, a1, b1, c1⟩ := isKeys_rows lv1 bs1 ik1
    obtain ⟨ks2, a2, b2, c2⟩ := isKeys_rows lv2 bs2 ik2
    have lb1 : bs1.length = lv1.length := by have := congrArg List.length a1; have := congrArg List.length b1; simp only [List.length_map] at *; omega
    have lb2 : bs2.length = lv2.length := by have := congrArg List.length a2; have := congrArg List.length b2; simp only [List.length_map] at *; omega
    refine ⟨v1, v2, _, _, rfl, rfl, Same.at nv2 upd_same, upd_same, Nat.le_of_lt (big (by rw [List.length_map, List.length_map]; omega)), fun v3 nv3 => ?_⟩
    have s3 : Same H (upd (upd (upd H v1 (.lst (bs1.map V.ref))) v2 (.lst (bs2.map V.ref))) v3 (.lst (bs1.map V.ref ++ bs2.map V.ref))) := (s1.up nv2).up nv3
    have hv3 : (upd (upd (upd H v1 (.lst (bs1.map V.ref))) v2 (.lst (bs2.map V.ref))) v3 (.lst (bs1.map V.ref ++ bs2.map V.ref))) v3 = some (.lst ((ks1 ++ ks2).map fun p => V.ref p.1)) := by
      rw [upd_same, List.map_append, a1, a2]
    have c2' : ∀ p ∈ ks2, (upd (upd (upd H v1 (.lst (bs1.map V.ref))) v2 (.lst (bs2.map V.ref))) v3 (.lst (bs1.map V.ref ++ bs2.map V.ref))) p.1 = some (.tup (p.2.map V.int)) := fun p hp => ((Same.new nv2).up nv3) _ _ (c2 p hp)
    generalize upd (upd (upd H v1 (.lst (bs1.map V.ref))) v2 (.lst (bs2.map V.ref))) v3 (.lst (bs1.map V.ref ++ bs2.map V.ref)) = H3 at s3 hv3 c2' ⊢
    have ctup : ∀ p ∈ ks1 ++ ks2, H3 p.1 = some (.tup (p.2.map V.int)) := fun p hp => Or.elim (List.mem_append.mp hp) (fun hp => s3 _ _ (c1 p hp)) (c2' p)
    have lks : (ks1 ++ ks2).length < 64 := by
      have e1 := congrArg List.length b1
      have e2 := congrArg List.length b2
      rw [List.length_map, List.length_map] at e1 e2
      rw [List.length_append]
      omega
    have mks : ∀ r, r ∈ (ks1 ++ ks2).map (·.2) ↔ r ∈ keysM s := fun r => by rw [List.map_append, List.mem_append, b1, b2, k1, k2, keysM_mem]
    refine ⟨v3, ks1 ++ ks2, rfl, SqL.of hv3, fun p hp => SqT.of (ctup p hp), lks, fun sa SL nsa hL1 hL2 => ?_⟩
    have mSL : ∀ r, r ∈ SL.map (·.2) ↔ r ∈ keysM s := fun r => by
      rw [← mks]
      constructor
      · intro h
        obtain ⟨p, hp, rfl⟩ := List.mem_map.mp h
        exact List.mem_map.mpr ⟨p, hL1 p hp, rfl⟩
      · intro h
        obtain ⟨p, hp, rfl⟩ := List.mem_map.mp h
        exact hL2 p hp
    have rok : ∀ r, r ∈ keysM s → RefOk r := fun r hr => Or.elim ((keysM_mem r).mp hr) (M.rf r) (M.rl r)
    refine ⟨sa, SL, rfl, upd_same, fun p hp => Same.at nsa (ctup p (hL1 p hp)), (fun p hp z => by have := (rok p.2 ((mSL _).mp (List.mem_map.mpr ⟨p, hp, rfl⟩))).2.1; rw [z] at this; exact absurd this (by decide)), fun L zs nL nd hz hzs => ?_⟩
    rw [sortRows_same nd (keysM_nodup M) mSL] at hz
    have s4 := s3.up nsa (o := SetTO P w sa SL)
    have s5 := s4.up nL (o := .lst (zs.map fun z => V.ref z.1))
    refine ⟨L, rfl, ⟨_, SqL.of upd_same⟩, ?_⟩
    refine for_list (K := K) (xs := zs.map fun z => V.ref z.1) (fun i σ H' => Same (upd (upd H3 sa (SetTO P w sa SL)) L (.lst (zs.map fun z => V.ref z.1))) H' ∧ (∃ x3 : Option V, σ = [some (.ref d1), some (.ref d2), some (.int s.count), x3, none, none]) ∧ ∀ j y, j < i → (sortRows (keysM s))[j]? = some y → refBad s y = false) ⟨Same.refl _, ⟨none, rfl⟩, (fun j y hj => absurd hj (Nat.not_lt_zero _))⟩ (fun i σ H' _ p => SqL.of (p.1 _ _ upd_same)) ?_ ?_
    · rintro i x σ H6 hx ⟨s6, ⟨x3, rfl⟩, nb⟩
      rw [List.getElem?_map] at hx
      obtain ⟨z, hzi, rfl⟩ : ∃ z, zs[i]? = some z ∧ x = .ref z.1 := by
        cases e : zs[i]? with
        | none => rw [e] at hx; cases hx
        | some z => rw [e] at hx; cases hx; exact ⟨z, rfl, rfl⟩
      obtain ⟨q, r⟩ := z
      have hri : (sortRows (keysM s))[i]? = some r := by rw [← hz, List.getElem?_map, hzi]; rfl
      have hrm : RefOk r := rok r (sortRows_mem.mp (List.mem_of_getElem? hri))
      have s16 := s5.trans s6
      have hq : H6 q = some (.tup (r.map V.int)) := s6 _ _ ((Same.new nL) _ _ (hzs _ (List.mem_of_getElem? hzi)))
      have hfb : refBad s r = true → firstBad s = some r := fun hb => find_at hri hb nb
      have hrl : r.length ≤ 20 := hrm.2.2
      have bad : ∀ H7 (q8 : Addr), Same H6 H7 → refBad s r = true → H7 q8 = some (.tup (((76 : Int) :: r).map V.int)) → [V.str "broken", V.ref q8].length ≤ sizeLine ∧ ∀ p, H7 p = none → Q (.ref p) (upd H7 p (.tup [.str "broken", .ref q8])) := fun H7 q8 s7 hb hq8 => ⟨sz2, fun p np => k p _ ((s16.trans s7).up np) (by
        unfold dueD
        rw [hfb hb]
        exact .tup (SqT.of upd_same) (.cons (.str _) (.cons (dp_row (Same.at np hq8)) .nil)))⟩
      refine ⟨_, rfl, _, rfl, d1, ?_⟩
      rcases (hd1.same s16).get hq with ⟨g1, dg1⟩ | ⟨v1, p, g1, r1, dg1⟩
      · refine ⟨none, rfl, dg1, _, rfl, iteT (iteT ?_)⟩
        exact ⟨by decide, fun t nt => ⟨_, rfl, catA_of (xs := [.int 76]) upd_same (Same.at nt hq) (by rw [List.length_map]; show 1 + _ ≤ _; omega) fun q7 H7 s7 hq7 => bad H7 q7 ((Same.new nt).trans s7) (refBad_n1 g1) hq7⟩⟩
      · refine ⟨some v1, rfl, dg1, _, rfl, iteF ?_⟩
        refine ⟨_, rfl, _, rfl, d2, ?_⟩
        rcases (hd2.same s16).get hq with ⟨g2, dg2⟩ | ⟨v2, es, g2, r2, dg2⟩
        · refine ⟨none, rfl, dg2, _, rfl, iteT (iteT ?_)⟩
          exact ⟨by decide, fun t nt => ⟨_, rfl, catA_of (xs := [.int 76]) upd_same (Same.at nt hq) (by rw [List.length_map]; show 1 + _ ≤ _; omega) fun q7 H7 s7 hq7 => bad H7 q7 ((Same.new nt).trans s7) (refBad_n2 g2) hq7⟩⟩
        · refine ⟨some v2, rfl, dg2, _, rfl, iteF ?_⟩
          obtain ⟨la, lz, rfl, hla, hE⟩ := r2
          cases (show v1 = .int p from r1)
          refine ⟨_, rfl, _, rfl, d2, _, rfl, dg2, _, rfl, _, rfl, d1, _, rfl, dg1, _, rfl, la, es, p, s.count, rfl, ⟨lz, hla, hE⟩, fun H7 s7 => ⟨_, rfl, ?_⟩⟩
          have hrb := refBad_of g1 g2
          show if (!isLogP es p s.count) = true then _ else _
          cases c : isLogP es p s.count with
          | false =>
            rw [c] at hrb
            exact iteT ⟨by decide, fun t nt => ⟨_, rfl, catA_of (xs := [.int 76]) upd_same (Same.at nt (s7 _ _ hq)) (by rw [List.length_map]; show 1 + _ ≤ _; omega) fun q8 H8 s8 hq8 => bad H8 q8 ((s7.up nt).trans s8) hrb hq8⟩⟩
          | true =>
            rw [c] at hrb
            refine iteF ⟨s6.trans s7, ⟨_, rfl⟩, fun j y hj hy => ?_⟩
            rcases Nat.lt_succ_iff_lt_or_eq.mp hj with hj | rfl
            · exact nb j y hj hy
            · rw [hri] at hy; cases hy; exact hrb
    · rintro σ H6 ⟨s6, ⟨x3, rfl⟩, nb⟩
      have s16 := s5.trans s6
      have hnone : firstBad s = none := find_none fun j y hj hy => nb j y (by rw [List.length_map]; rw [← hz, List.length_map] at hj; exact hj) hy
      clear nb hz hzs
      have ens : (rowsKV lv2).map (·.1) = (keysR s.logs).map row := by rw [← k2, List.map_map, List.map_map]; rfl
      refine ⟨_, rfl, d2, _, keysR s.logs, rfl, .inl (s16 _ _ h2), ens, (fun r hr z => by have := (M.rl r hr).2.1; rw [z] at this; exact absurd this (by decide)), fun L2 zs2 nL2 hz2 hzs2 => ?_⟩
      have s17 := s16.up nL2 (o := .lst (zs2.map fun z => V.ref z.1))
      have hzs7 : ∀ z ∈ zs2, (upd H6 L2 (.lst (zs2.map fun z => V.ref z.1))) z.1 = some (.tup (z.2.map V.int)) := fun z hz => Same.at nL2 (hzs2 z hz)
      have hL2 : (upd H6 L2 (.lst (zs2.map fun z => V.ref z.1))) L2 = some (.lst (zs2.map fun z => V.ref z.1)) := upd_same
      generalize upd H6 L2 (.lst (zs2.map fun z => V.ref z.1)) = H7 at s17 hzs7 hL2 ⊢
      have lz2 : zs2.length = s.logs.length := by
        have := congrArg List.length hz2
        rw [List.length_map] at this
        rw [this, ← keysR_sortK]
        show ((sortK s.logs).map (·.1)).length = _
        rw [List.length_map]
        exact (List.mergeSort_perm s.logs _).length_eq
      refine ⟨L2, rfl, ⟨_, SqL.of hL2⟩, fun D nD => ?_⟩
      refine lc_it (walk_list (K := K) (a := L2) (xs := zs2.map fun z => V.ref z.1)) (fun j H' => Same H7 H' ∧ ∃ ys : List (Addr × List Int × List Ent), H' D = some (.lst (refs ys)) ∧ ys.map (·.2) = (sortK s.logs).take j ∧ ∀ y ∈ ys, PL H' y) ⟨Same.new nD, [], upd_same, rfl, (fun y hy => by cases hy)⟩ (fun j H' _ p => SqL.of (p.1 _ _ hL2)) ?_ ?_
      · rintro j x H8 H9 hj ⟨s8, ys, hD, hys, hpl⟩ ⟨rfl, hx⟩
        rw [List.getElem?_map] at hx
        obtain ⟨z, hzi, rfl⟩ : ∃ z, zs2[j]? = some z ∧ x = .ref z.1 := by
          cases e : zs2[j]? with
          | none => rw [e] at hx; cases hx
          | some z => rw [e] at hx; cases hx; exact ⟨z, rfl, rfl⟩
        obtain ⟨q, r⟩ := z
        have hq := s8 _ _ (hzs7 _ (List.mem_of_getElem? hzi))
        have hrj : (keysR (sortK s.logs))[j]? = some r := by rw [keysR_sortK, ← hz2, List.getElem?_map, hzi]; rfl
        obtain ⟨es, hes⟩ : ∃ es, (sortK s.logs)[j]? = some (r, es) := by
          unfold keysR at hrj
          rw [List.getElem?_map] at hrj
          cases e : (sortK s.logs)[j]? with
          | none => rw [e] at hrj; cases hrj
          | some y => rw [e] at hrj; cases hrj; exact ⟨y.2, rfl⟩
        have hget : getR s.logs r = some es := getR_mem M.nl (List.mem_mergeSort.mp (List.mem_of_getElem? hes))
        have ylen : ys.length ≤ j := by
          have := congrArg List.length hys
          rw [List.length_map, List.length_take] at this
          omega
        have jlt : j < 5 + 1 := by rw [List.length_map] at hj; omega
        refine ⟨rfl, _, rfl, _, rfl, _, rfl, d2, ?_⟩
        rcases (hd2.same (s17.trans s8)).get hq with ⟨g2, _⟩ | ⟨v2, es', g2, r2, dg2⟩
        · rw [hget] at g2; cases g2
        rw [hget] at g2
        cases g2
        obtain ⟨la, lz, rfl, hla, hE⟩ := r2
        refine ⟨_, rfl, dg2, la, rfl, ⟨_, SqL.of hla⟩, fun D2 nD2 => ?_⟩
        have les : (refs lz).length = lz.length := List.length_map ..
        have le8 : lz.length ≤ 8 := by rw [hE.len]; exact h8 _ (List.mem_mergeSort.mp (List.mem_of_getElem? hes))
        refine lcA (walk_list (K := K) (a := la) (xs := refs lz)) (fun i => ((refs lz)[i]?).getD .non) nD2 (big (by rw [les]; omega)) (fun H' e => SqL.of (e _ _ hla)) ?_ ?_
        · rintro i x H9 H10 acc N hi s9 ⟨rfl, hx9⟩ hD9 hacc kt
          obtain ⟨ea, e, rfl, he, hea, _⟩ := (hE.keep s9).of hx9
          have kt' := kt _ (Same.refl _)
          rw [hx9] at kt'
          exact ⟨rfl, _, rfl, ea, _, rfl, .inr ⟨SqT.of hea, acc, hD9, hacc, kt'⟩⟩
        · intro H9 s9 hD9
          rw [les] at hD9
          rw [show (List.range lz.length).map (fun i => ((refs lz)[i]?).getD V.non) = refs lz from range_get (fun z : Addr × Ent => V.ref z.1) .non lz] at hD9
          refine ⟨D2, _, rfl, .inl ⟨SqL.of hD9, fun t nt => ⟨sz2, fun u nu => ?_⟩⟩⟩
          have s10 := (s9.up nt (o := .tup (refs lz))).up nu (o := .tup [.ref q, .ref t])
          have ht : (upd (upd H9 t (.tup (refs lz))) u (.tup [.ref q, .ref t])) t = some (.tup (refs lz)) := Same.at nu upd_same
          have hu10 : (upd (upd H9 t (.tup (refs lz))) u (.tup [.ref q, .ref t])) u = some (.tup [.ref q, .ref t]) := upd_same
          generalize upd (upd H9 t (.tup (refs lz))) u (.tup [.ref q, .ref t]) = Ha at s10 ht hu10 ⊢
          have hDa := s10 _ _ hD
          have pu : PL Ha (u, r, es) := ⟨q, t, lz, hu10, s10 _ _ hq, ht, hE.keep s10⟩
          refine ⟨_, hDa, big (by rw [List.length_map]; omega), (s8.trans s10).put nD, ys ++ [(u, r, es)], ?_, ?_, fun y hy => ?_⟩
          · rw [upd_same]
            show some (HO.lst (refs ys ++ [V.ref u])) = some (HO.lst (refs (ys ++ [(u, r, es)])))
            rw [show refs (ys ++ [(u, r, es)]) = refs ys ++ [V.ref u] from List.map_append]
          · rw [List.map_append, hys, List.take_succ, hes]
            rfl
          · refine PL.keep ?_ (TupK.up hDa)
            rcases List.mem_append.mp hy with hy | hy
            · exact (hpl y hy).keep (.of s10)
            · rw [List.mem_singleton.mp hy]
              exact pu
      · rintro H8 ⟨s8, ys, hD, hys, hpl⟩
        have lsl : (sortK s.logs).length = s.logs.length := (List.mergeSort_perm s.logs _).length_eq
        rw [List.length_map, lz2, ← lsl, List.take_length] at hys
        have s18 := s17.trans s8
        refine ⟨D, _, rfl, .inl ⟨SqL.of hD, fun t nt => ?_⟩⟩
        have d18 : Dp K (upd H8 t (.tup (refs ys))) (.ref t) (logsD s.logs) := .tup (SqT.of upd_same) (by
          rw [← hys, List.map_map]
          exact dp_PLs ys fun y hy => (hpl y hy).keep (.of (Same.new nt)))
        have s19 := s18.up nt (o := .tup (refs ys))
        generalize upd H8 t (.tup (refs ys)) = H9 at d18 s19 ⊢
        refine ⟨_, rfl, tyd (s19 _ _ h1), d1, _, rfl, rfl, s19 _ _ h1, fun w1 nw1 => ?_⟩
        have t1 : Same H9 (upd H9 w1 (DX.itemsO w1 d1)) := Same.new nw1
        refine ⟨w1, d1, lv1, rfl, upd_same, t1 _ _ (s19 _ _ h1), (fun e he => by
          obtain ⟨y, hy, hv⟩ := paired_left p1 e he
          exact ⟨.int y.2, by rw [show e.2 = .int y.2 from hv]; exact .int _⟩), fun Ha b7 zs7 s7 nl7 hl7 hz7 hzs7 => ?_⟩
        refine ⟨b7, _, rfl, .inl ⟨SqL.of hl7, fun t7 nt7 => ?_⟩⟩
        have d17 : Dp K (upd Ha t7 (.tup (zs7.map fun z => V.ref z.1))) (.ref t7) (foundD s.found) := dp_sorted (F := fun v a => v = .int a) (fun a => .int a) (fun v a h => by rw [h]; exact .int _) p1 hz7 (fun z hz => by
          obtain ⟨q, e1, e2⟩ := hzs7 z hz
          exact ⟨q, Same.at nt7 e1, Same.at nt7 e2⟩) upd_same
        have s20 := (t1.trans s7).up nt7 (o := .tup (zs7.map fun z => V.ref z.1))
        generalize upd Ha t7 (.tup (zs7.map fun z => V.ref z.1)) = Hb at d17 s20 ⊢
        have d20 := Dp.keeps s20 _ _ d18
        refine ⟨_, rfl, _, rfl, sz3, fun t8 nt8 => ⟨sz2, fun t9 nt9 => k t9 _ (((s19.trans s20).up nt8).up nt9) ?_⟩⟩
        unfold dueD
        rw [hnone]
        have e8 : Same Hb (upd (upd Hb t8 (.tup [.ref t7, .ref t, .int s.count])) t9 (.tup [.str "told", .ref t8])) := (Same.new nt8).up nt9
        exact .tup (SqT.of upd_same) (.cons (.str _) (.cons (.tup (SqT.of (Same.at nt9 upd_same)) (.cons (Dp.keeps e8 _ _ d17) (.cons (Dp.keeps e8 _ _ d20) (.cons (.int _) .nil)))) .nil))
end
end K49
namespace K49
open PySem L2
/-! ### what is heard -/
abbrev sKH : Stmt := topS 47
noncomputable def heardD (its : List Item) : PyData := match meaning its with
  | .inl k => .tuple [.str "broken", rowD k]
  | .inr s => .tuple [.str "told", toldD s]
def spKH (K : PySem.W.Frag) : Sp := fun vs H Q _ => ∃ (a : Addr) (zs : List (Addr × Item)) (its : List Item), vs = [.ref a] ∧ H a = some (.tup (refs zs)) ∧ ItemsAt H zs its ∧ its.length ≤ 60 ∧ (∀ it ∈ its, ItOk it) ∧
  ∀ (p : Addr) H', Same H H' → Dp K H' (.ref p) (heardD its) → Q (.ref p) H'
section
variable {P : Program} {w : World} {K : PySem.W.Frag} {mg : Str → Option Value} {base : Heap}
theorem scKH : FnScope ["items", "fault"] ["items"] (defScope sKH) := ⟨rfl, rfl, rfl, by decide +kernel, rfl, by decide +kernel, by decide +kernel⟩
theorem ok_kh {CB CK fI : Addr} (D : Def K mg "_law_heard" sKH ["items"]) (DR : Def K mg "refs_meaning" sRM ["items"]) (T : RMs P w K mg base CB fI) (S : ErrIs K CB) (mK : mg "KeepError" = some (.ref CK)) (kit : PySem.W.kitOne K (.ref CB) (.ref CK) = some true) :
    Ok P w K mg base CX0 10 "_law_heard" ["items"] (spKH K) := by
  obtain ⟨fR, fdR, FR, mR, kR, bR⟩ := DR.ex
  have GR : FnOk P w K mg base (L2.CX P w) 9 fR fdR ["items"] (spRM K CB) := ok_rm FR T
  have R := T.R
  have B := T.B
  refine D.ok fun F => F.ok scKH (fun vs H Q E h => ?_) (fun cdv A outer s0 H vs Q E hr h => ?_)
  · obtain ⟨a, zs, its, rfl, _⟩ := h
    rfl
  · obtain ⟨a, zs, its, rfl, ha, hI, hl, hok, k⟩ := h
    refine ⟨_, pss_one (ps_try_as (i := 1) (tb := fun W => tRet (tTup (tCons (tC (.str "told")) (tCons (tCallS (spRM K CB) (WE W) (tCons (tVar 0) tNil)) tNil))))
        (ts := fun a cls d => tRet (tIf (tB (tCB (rErrIs K CB a cls d) (tCons (tVar 1) (tCons (tC (.ref CK)) tNil)))) (tTup (tCons (tC (.str "broken")) (tCons (tErrAt CB a cls d (tVar 1)) tNil))) (tC .non))) (Wout := fun _ _ _ _ => False) rfl rfl scKH.nd rfl rfl ⟨rfl, by decide, Or.inl R.gC⟩ takes0
          (fun W pn xe tk _ => pss_one (ps_ret (by exact pe_tup (pa_cons pe_str (pa_cons (pe_callS GR hr (by rfl) mR kR bR (fun σ => passAt tk σ) (pa_cons (pv 0) pa_nil)) pa_nil)))))
          (fun a oe cls d pn hz hf => pss_one (ps_ret (by exact pe_ifExp (pt_val (pe_callB (call_errIs R S hz hf) (by rfl) B.isinstance (by decide +kernel) (by exact (pa_cons (pv 1) (pa_cons (pe_glob (v := .ref CK) (by rfl) mK rfl) pa_nil))))) (pe_tup (pa_cons pe_str (pa_cons (pe_errAt R hz hf (pv 1)) pa_nil))) pe_non)))), ?_⟩
    refine ⟨_, rfl, a, zs, its, rfl, ha, hI, hl, hok, fun ky hk q d H1 s1 hq hd => ?_, fun s n hs _ _ p H1 s1 hp => ?_⟩
    · refine ⟨true, R.te, fun _ a _ => ?_, fun q => Bool.noConfusion q⟩
      refine ⟨_, rfl, CK, true, d, _, rfl, rfl, rfl, upd_same, kit, _, rfl, iteT ⟨_, rfl, rfl, rfl, d, _, rfl, upd_same, sz2, fun p np => ?_⟩⟩
      have s2 := (s1.up hd (o := .xd [(fAt, .ref q)])).up np (o := .tup [.str "broken", .ref q])
      refine k p _ s2 ?_
      unfold heardD
      rw [hk]
      exact .tup (SqT.of upd_same) (.cons (.str _) (.cons (dp_row (Same.at np (Same.at hd hq))) .nil))
    · refine ⟨sz2, fun t nt => k t _ (s1.up nt) ?_⟩
      unfold heardD
      rw [hs]
      exact .tup (SqT.of upd_same) (.cons (.str _) (.cons (Dp.keeps (Same.new nt) _ _ hp) .nil))
end
end K49
namespace K49
open PySem L2
/-! ### all that the law's text names -/
structure Top (P : Program) (K : PySem.W.Frag) (mg : Str → Option Value) where
  CB : Addr
  CK : Addr
  fI : Addr
  B : Blt mg
  C : Cst mg
  zip : mg "zip" = none
  en : mg "enumerate" = none
  bool : mg "bool" = none
  dict : mg "dict" = none
  R : PySem.KwE.ErrTxt P K mg "Broken" CB fI
  S : ErrIs K CB
  mK : mg "KeepError" = some (.ref CK)
  kit : PySem.W.kitOne K (.ref CB) (.ref CK) = some true
  int : Def K mg "is_integer" sInt ["value"]
  num : Def K mg "is_number" sNum ["value"]
  bel : Def K mg "is_below" sBel ["value", "most"]
  isq : Def K mg "is_sequence" sIsq ["value"]
  oct : Def K mg "is_octets" sOct ["value"]
  need : Def K mg "need_octets" sNeed ["value"]
  no : Def K mg "number_octets" sNO ["number", "many"]
  on : Def K mg "octets_number" sON ["octets"]
  ref : Def K mg "is_ref" sRef ["value"]
  pl : Def K mg "is_place" sPl ["value"]
  own : Def K mg "is_own_place" sOwn ["ref", "place"]
  po : Def K mg "place_octets" sPO ["place"]
  op : Def K mg "octets_place" sOP ["octets"]
  lo : Def K mg "log_octets" sLO ["log"]
  ol : Def K mg "octets_log" sOL ["octets"]
  lg : Def K mg "is_log" sLg ["log", "now", "count"]
  al : Def K mg "are_log_octets" sAL ["value"]
  rm : Def K mg "refs_meaning" sRM ["items"]
  bx : Def K mg "_law_box" sBox ["script", "k"]
  tk : Def K mg "_law_take" sTake ["box", "many"]
  pk : Def K mg "_law_pick" sPick ["box", "some"]
  nm : Def K mg "_law_name" sNm ["name"]
  ll : Def K mg "_law_log" sLL ["box", "now", "most"]
  lb : Def K mg "_law_bent" sLB ["box", "log", "count"]
  kl : Def K mg "_law_is_log" sKL ["log", "now", "count"]
  ko : Def K mg "_law_octets" sKO ["log"]
  kd : Def K mg "_law_due" sKD ["pairs", "logs", "count"]
  kh : Def K mg "_law_heard" sKH ["items"]
section
variable {P : Program} {w : World} {K : PySem.W.Frag} {mg : Str → Option Value} {base : Heap}
theorem Top.oInt (T : Top P K mg) : Ok P w K mg base CX0 1 "is_integer" ["value"] spInt := ok_int T.int T.B T.bool
theorem Top.oNum (T : Top P K mg) : Ok P w K mg base CX0 2 "is_number" ["value"] spNum := ok_num T.num T.oInt
theorem Top.oBel (T : Top P K mg) : Ok P w K mg base CX0 3 "is_below" ["value", "most"] spBel := ok_bel T.bel T.oNum
theorem Top.oIsq (T : Top P K mg) : Ok P w K mg base CX0 1 "is_sequence" ["value"] spIsq := ok_isq T.isq T.B
theorem Top.oOct (T : Top P K mg) : Ok P w K mg base CX0 4 "is_octets" ["value"] spOct := ok_oct T.oct T.B T.C T.oIsq T.oBel
theorem Top.oNeed (T : Top P K mg) : Ok P w K mg base CX0 4 "need_octets" ["value"] spNeed := ok_need T.need T.B T.en T.C T.oIsq T.oBel
theorem Top.oNo (T : Top P K mg) : Ok P w K mg base CX0 3 "number_octets" ["number", "many"] spNO := ok_no T.no T.B T.C T.oNum
theorem Top.oOn (T : Top P K mg) : Ok P w K mg base CX0 5 "octets_number" ["octets"] spON := ok_on T.on T.C T.oNeed
theorem Top.oRef (T : Top P K mg) : Ok P w K mg base CX0 5 "is_ref" ["value"] spRef := ok_ref T.ref T.B T.C T.oOct
theorem Top.oPl (T : Top P K mg) : Ok P w K mg base CX0 4 "is_place" ["value"] spPl := ok_pl T.pl T.C T.oBel
theorem Top.oOwn (T : Top P K mg) : Ok P w K mg base CX0 6 "is_own_place" ["ref", "place"] spOwn := ok_own T.own T.B T.C T.oOn
theorem Top.oPo (T : Top P K mg) : Ok P w K mg base CX0 4 "place_octets" ["place"] spPO := ok_po T.po T.C T.oNo
theorem Top.oOp (T : Top P K mg) : Ok P w K mg base CX0 6 "octets_place" ["octets"] spOP := ok_op T.op T.oOn
theorem Top.oLo (T : Top P K mg) : Ok P w K mg base CX0 5 "log_octets" ["log"] spLO := ok_lo T.lo T.C T.oNo T.oPo
theorem Top.oOl (T : Top P K mg) : Ok P w K mg base CX0 7 "octets_log" ["octets"] spOL := ok_ol T.ol T.B T.C T.oOn T.oOp
theorem Top.oAl (T : Top P K mg) : Ok P w K mg base CX0 8 "are_log_octets" ["value"] spAL := ok_al T.al T.B T.C T.oPl T.oLo T.oOl
theorem Top.oLg (T : Top P K mg) : Ok P w K mg base CX0 1 "is_log" ["log", "now", "count"] spLg := T.lg.ok fun F => ok_lg F T.B T.en T.C
theorem Top.rms (T : Top P K mg) : RMs P w K mg base T.CB T.fI := ⟨T.B, T.C, T.R, T.dict, T.oRef, T.oOn, T.oOwn, T.oAl, T.oOl, T.lg.ex, T.en⟩
theorem Top.oRm (T : Top P K mg) : Ok P w K mg base (L2.CX P w) 9 "refs_meaning" ["items"] (spRM K T.CB) := T.rm.ok fun F => ok_rm F T.rms
theorem Top.oBx (T : Top P K mg) : Ok P w K mg base CX0 1 "_law_box" ["script", "k"] (spBox K) := T.bx.ok fun F => ok_box F T.B
theorem Top.oTk (T : Top P K mg) : Ok P w K mg base CX0 1 "_law_take" ["box", "many"] spTake := T.tk.ok fun F => ok_take F T.B
theorem Top.oPk (T : Top P K mg) : Ok P w K mg base CX0 2 "_law_pick" ["box", "some"] (spPick K) := by
  obtain ⟨fT, fdT, FT, mT, kT, bT⟩ := T.tk.ex
  exact T.pk.ok fun F => ok_pick F T.B mT kT FT bT
theorem Top.oNm (T : Top P K mg) : Ok P w K mg base CX0 1 "_law_name" ["name"] spNm := ok_nm T.nm T.B
theorem Top.oLl (T : Top P K mg) : Ok P w K mg base CX0 2 "_law_log" ["box", "now", "most"] spLL := ok_ll T.ll T.B T.zip T.oTk
theorem Top.oLb (T : Top P K mg) : Ok P w K mg base CX0 3 "_law_bent" ["box", "log", "count"] spLB := ok_lb T.lb T.B T.oTk T.oPk
theorem Top.oKl (T : Top P K mg) : Ok P w K mg base CX0 1 "_law_is_log" ["log", "now", "count"] spKL := ok_kl T.kl T.B T.zip
theorem Top.oKo (T : Top P K mg) : Ok P w K mg base CX0 2 "_law_octets" ["log"] spKO := ok_ko T.ko T.oNm
theorem Top.oKd (T : Top P K mg) : Ok P w K mg base CX0 2 "_law_due" ["pairs", "logs", "count"] (spKD K) := ok_kd T.kd T.B T.oKl
theorem Top.oKh (T : Top P K mg) : Ok P w K mg base CX0 10 "_law_heard" ["items"] (spKH K) := ok_kh T.kh T.rm T.rms T.S T.mK T.kit
end
/-! ### the script: locked, or of the written part -/
def ScL (K : PySem.W.Frag) (H : Hp) (a : Addr) (xs : List V) : Prop := (∃ o, H a = some (.frz o (.lst xs))) ∨
  ∃ (o : Obj) (its : Array Value) (n : Nat), K.lookup a = some o ∧ o.cls = .type "list" ∧ o.dict = none ∧ o.data = .seq its n ∧ its.size ≤ sizeLine ∧ Vals xs its.toList
theorem ScL.seq {K : PySem.W.Frag} {H : Hp} {a : Addr} {xs : List V} (h : ScL K H a xs) : SqL K H a xs := h.imp (fun ⟨o, h⟩ => .inr ⟨o, h⟩) id
theorem ScL.keep {K : PySem.W.Frag} {H H' : Hp} {a : Addr} {xs : List V} (h : ScL K H a xs) (s : Same H H') : ScL K H' a xs := h.imp (fun ⟨o, h⟩ => ⟨o, s _ _ h⟩) id
theorem ScL.by {K : PySem.W.Frag} {H H' : Hp} {a : Addr} {xs : List V} (h : ScL K H a xs) (k : ∀ o, H a = some (.frz o (.lst xs)) → H' a = some (.frz o (.lst xs))) : ScL K H' a xs := h.imp (fun ⟨o, h⟩ => ⟨o, k o h⟩) id
/-! ### the law's state -/
def R0 : List (List Int) := [[1], 64 :: 3 :: List.replicate 8 255, [1, 0], [64, 3, 9], List.replicate 20 200]
def V3 : List Int := [0, 5, 2 ^ 61 - 2]
theorem R0_nodup : R0.Nodup := by decide +kernel
theorem R0_ok : ∀ r ∈ R0, RefOk r := by decide +kernel
theorem R0_pairs : ∀ r ∈ R0, ∀ v ∈ V3, goodF r (be 8 v) = true ∧ num (be 8 v) = v := by decide +kernel
theorem V3_pl : ∀ v ∈ V3, plOk (some v) = true := by decide +kernel
/-- a log in a list that is not the box -/
def rLog (b : Addr) : RV (List Ent) := ⟨fun H v es => ∃ a zs, v = .ref a ∧ a ≠ b ∧ H a = some (.lst (refs zs)) ∧ Ents H zs es, fun k ⟨a, zs, e, n, h, E⟩ => ⟨a, zs, e, n, k.lst h, E.keepN k⟩⟩
structure Stt where
  b : Addr
  d1 : Addr
  d2 : Addr
  ps : List (List Int × Int)
  ls : List (List Int × List Ent)
  c : Int
abbrev Stt.m (s : Stt) : MSt := ⟨s.ps, s.ls, s.c⟩
structure LI (K : PySem.W.Frag) (a : Addr) (ns : List Int) (s : Stt) (H : Hp) : Prop where
  sc : ScL K H a (ns.map V.int)
  box : BoxAt H s.b
  r1 : RD rInt.R H s.d1 s.ps
  r2 : RD (rLog s.b).R H s.d2 s.ls
  ne : s.d1 ≠ s.d2
  c0 : 40 ≤ s.c
  c1 : s.c ≤ 42
  kp : (keysR s.ps).Sublist R0
  kl : (keysR s.ls).Sublist R0
  gp : ∀ e ∈ s.ps, e.2 ∈ V3
  gl : ∀ e ∈ s.ls, LogG e.2
theorem keysR_len {α : Type} {l : List (List Int × α)} (h : (keysR l).Sublist R0) : l.length ≤ 5 := by
  have := h.length_le
  unfold keysR at this
  rw [List.length_map] at this
  exact this
section
variable {K : PySem.W.Frag} {a : Addr} {ns : List Int} {s : Stt} {H H' : Hp}
theorem LI.M (I : LI K a ns s H) : MOk s.m 5 := ⟨keysR_len I.kp, keysR_len I.kl, I.kp.nodup R0_nodup, I.kl.nodup R0_nodup, fun r h => R0_ok r (I.kp.subset h), fun r h => R0_ok r (I.kl.subset h)⟩
theorem LI.d1b (I : LI K a ns s H) : s.d1 ≠ s.b := by
  obtain ⟨kvs, h⟩ := I.r1.dT
  obtain ⟨g, r, hb⟩ := I.box
  exact ne_of h hb (by intro z; cases z)
theorem LI.d2b (I : LI K a ns s H) : s.d2 ≠ s.b := by
  obtain ⟨kvs, h⟩ := I.r2.dT
  obtain ⟨g, r, hb⟩ := I.box
  exact ne_of h hb (by intro z; cases z)
theorem LI.keep (I : LI K a ns s H) (e : Same H H') : LI K a ns s H' := ⟨I.sc.keep e, I.box.keep e, I.r1.same e, I.r2.same e, I.ne, I.c0, I.c1, I.kp, I.kl, I.gp, I.gl⟩
theorem RD.mono {α : Type} {R R' : Hp → V → α → Prop} {d : Addr} {l : List (List Int × α)} (h : RD R H d l) (hd : ∀ o, H d = some o → H' d = some o) (hr : ∀ v x, R H v x → R' H' v x) : RD R' H' d l := by
  obtain ⟨lv, h1, h2⟩ := h
  exact ⟨lv, hd _ h1, paired_mono h2 fun x y z => ⟨z.1, hr _ _ z.2⟩⟩
theorem LI.fr (I : LI K a ns s H) (f : Fr s.b H H') (b' : BoxAt H' s.b) : LI K a ns s H' := by
  refine ⟨I.sc.by fun o h => ?_, b', I.r1.mono (fun o h => f _ _ h I.d1b) fun v x h => h, I.r2.mono (fun o h => f _ _ h I.d2b) fun v x ⟨l, zs, e, n, h, E⟩ => ⟨l, zs, e, n, f _ _ h n, E.fr f I.box⟩, I.ne, I.c0, I.c1, I.kp, I.kl, I.gp, I.gl⟩
  obtain ⟨g, r, hb⟩ := I.box
  exact f _ _ h (ne_of h hb (by intro z; cases z))
end
end K49
namespace K49
open PySem L2
abbrev sLaw : Stmt := topS 48
abbrev nL : List Str := ["script", "k", "box", "count", "pairs", "logs", "ref", "log", "items", "some", "odd", "none", "one", "long"]
theorem scL : FnScope nL ["script"] (defScope sLaw) := ⟨rfl, rfl, rfl, by decide +kernel, rfl, by decide +kernel, by decide +kernel⟩
abbrev bK : List Stmt := forB (hd (defBody sLaw))
abbrev XL (P : Program) (w : World) (K : PySem.W.Frag) (mg : Str → Option Value) (base : Heap) (f : Addr) (cdv : Value) (A : Around) (outer : List Env) (s0 : Shared) (H0 : Hp) (E : XK) : Cx := (cxOf CX0 P w K mg base nL "law" (defScope sLaw) f cdv A outer s0 H0 E).nox
abbrev SL (a : Addr) (s : Stt) (x1 x6 x7 x8 x9 x10 x11 x12 x13 : Option V) : St := [some (.ref a), x1, some (.ref s.b), some (.int s.c), some (.ref s.d1), some (.ref s.d2), x6, x7, x8, x9, x10, x11, x12, x13]
theorem repr_bl (b : Bool) : (PyData.bool b).showable = true ∧ (PyData.bool b).hasDict = false ∧ (PyData.bool b).depth ≤ 100 ∧ (PyData.bool b).shown.length ≤ sizeLine := by
  refine ⟨by rw [PyData.showable], by rw [PyData.hasDict], by rw [PyData.depth]; omega, ?_⟩
  have h1 := PyData.shown_le_bulk 13 (by decide) (.bool b) (by cases b <;> decide)
  rw [PyData.bulk] at h1
  exact Nat.le_trans h1 (by decide)
theorem putR_end {α : Type} {l : List (List Int × α)} {i : Nat} {r : List Int} {x : α} (h : keysR l = R0.take i) (hr : R0[i]? = some r) : putR l r x = l ++ [(r, x)] ∧ keysR (putR l r x) = R0.take (i + 1) := by
  have hn : r ∉ keysR l := by
    rw [h]
    intro z
    obtain ⟨j, hj⟩ := List.mem_iff_getElem?.mp z
    rw [List.getElem?_take] at hj
    split at hj
    · rename_i hji
      have := (List.getElem?_inj (List.getElem?_eq_some_iff.mp hj).1 R0_nodup).mp (hj.trans hr.symm)
      omega
    · cases hj
  have e := putR_new (a := x) hn
  refine ⟨e, ?_⟩
  rw [e, List.take_succ, hr, ← h]
  exact List.map_append
theorem getR_putR {α : Type} {l : List (List Int × α)} {r : List Int} {x : α} (nd : (keysR (putR l r x)).Nodup) (e : putR l r x = l ++ [(r, x)]) : getR (putR l r x) r = some x := getR_mem nd (by rw [e]; exact List.mem_append_right _ (List.mem_singleton.mpr rfl))
theorem LI.put1 {K : PySem.W.Frag} {a : Addr} {ns : List Int} {s : Stt} {H : Hp} {i : Nat} {r : List Int} {q : Addr} {x : Int} (I : LI K a ns s H) (kp : keysR s.ps = R0.take i) (hri : R0[i]? = some r) (hq : H q = some (.tup (r.map V.int))) (hx : x ∈ V3) :
    ∃ o, DPut H s.d1 (.ref q) (.int x) (upd H s.d1 o) ∧ LI K a ns { s with ps := putR s.ps r x } (upd H s.d1 o) ∧ keysR (putR s.ps r x) = R0.take (i + 1) ∧ KeepN H (upd H s.d1 o) := by
  obtain ⟨e1, e2⟩ := putR_end (x := x) kp hri
  have hl : s.ps.length ≤ 5 := keysR_len I.kp
  obtain ⟨o, g, h1, k⟩ := I.r1.put (v := .int x) (a := x) hq rfl (by omega)
  refine ⟨o, g, ⟨I.sc.by fun o' h => k _ _ h (fun _ z => by cases z), ?_, h1, I.r2.keep k (fun o' h => by rw [upd_ne I.ne.symm]; exact h), I.ne, I.c0, I.c1, by rw [e2]; exact List.take_sublist _ _, I.kl, fun e he => ?_, I.gl⟩, e2, k⟩
  · obtain ⟨g, r, hb⟩ := I.box
    exact ⟨g, r, k.lst hb⟩
  · have he : e ∈ putR s.ps r x := he
    rw [e1] at he
    rcases List.mem_append.mp he with he | he
    · exact I.gp e he
    · rw [List.mem_singleton.mp he]; exact hx
theorem LI.put2 {K : PySem.W.Frag} {a : Addr} {ns : List Int} {s : Stt} {H : Hp} {i : Nat} {r : List Int} {q l : Addr} {es : List Ent} (I : LI K a ns s H) (kl : keysR s.ls = R0.take i) (hri : R0[i]? = some r) (hq : H q = some (.tup (r.map V.int))) (hL : LogL H l es) (nl : l ≠ s.b) (hg : LogG es) :
    ∃ o, DPut H s.d2 (.ref q) (.ref l) (upd H s.d2 o) ∧ LI K a ns { s with ls := putR s.ls r es } (upd H s.d2 o) ∧ keysR (putR s.ls r es) = R0.take (i + 1) ∧ KeepN H (upd H s.d2 o) := by
  obtain ⟨e1, e2⟩ := putR_end (x := es) kl hri
  have hl : s.ls.length ≤ 5 := keysR_len I.kl
  obtain ⟨zs, hz, hE⟩ := hL
  obtain ⟨o, g, h2, k⟩ := I.r2.put (v := .ref l) (a := es) hq ⟨l, zs, rfl, nl, hz, hE⟩ (by omega)
  refine ⟨o, g, ⟨I.sc.by fun o' h => k _ _ h (fun _ z => by cases z), ?_, I.r1.keep k (fun o' h => by rw [upd_ne I.ne]; exact h), h2, I.ne, I.c0, I.c1, I.kp, by rw [e2]; exact List.take_sublist _ _, I.gp, fun e he => ?_⟩, e2, k⟩
  · obtain ⟨g, r, hb⟩ := I.box
    exact ⟨g, r, k.lst hb⟩
  · have he : e ∈ putR s.ls r es := he
    rw [e1] at he
    rcases List.mem_append.mp he with he | he
    · exact I.gl e he
    · rw [List.mem_singleton.mp he]; exact hg
theorem LogL.keepN {H H' : Hp} {l : Addr} {es : List Ent} (h : LogL H l es) (k : KeepN H H') : LogL H' l es := let ⟨zs, h1, h2⟩ := h; ⟨zs, k.lst h1, h2.keepN k⟩
section
variable {P : Program} {w : World} {K : PySem.W.Frag} {mg : Str → Option Value} {base : Heap} {f : Addr} {cdv : Value} {A : Around} {outer : List Env} {s0 : Shared} {H0 : Hp} {E : XK}
theorem law_ref (T : Top P K mg) (hG : (XL P w K mg base f cdv A outer s0 H0 E).A.guards = some []) (hr : Room 10 (XL P w K mg base f cdv A outer s0 H0 E).A) :
    ∃ t, PSs (XL P w K mg base f cdv A outer s0 H0 E) (forB (hd (bK.drop 3))) t ∧ ∀ (D : Ends) (a : Addr) (ns : List Int) (i : Nat) (s : Stt) (r : List Int) (q : Addr) (x1 x7 x8 x9 x10 x11 x12 x13 : Option V) (H : Hp), LI K a ns s H → keysR s.ps = R0.take i → keysR s.ls = R0.take i → R0[i]? = some r → H q = some (.tup (r.map V.int)) →
      (∀ (s' : Stt) (x7' : Option V) H', s'.b = s.b → s'.d1 = s.d1 → s'.d2 = s.d2 → s'.c = s.c → LI K a ns s' H' → keysR s'.ps = R0.take (i + 1) → keysR s'.ls = R0.take (i + 1) → (∀ c o, H c = some o → c ≠ s.b → c ≠ s.d1 → c ≠ s.d2 → H' c = some o) → D.nx (SL a s' x1 (some (.ref q)) x7' x8 x9 x10 x11 x12 x13) H') →
      t D (SL a s x1 (some (.ref q)) x7 x8 x9 x10 x11 x12 x13) H := by
  have B := T.B
  have hu := hu_of hr
  have OP : Ok P w K mg base CX0 2 "_law_pick" ["box", "some"] (spPick K) := T.oPk
  have OLL : Ok P w K mg base CX0 2 "_law_log" ["box", "now", "most"] spLL := T.oLl
  have OB : Ok P w K mg base CX0 3 "_law_bent" ["box", "log", "count"] spLB := T.oLb
  have OKL : Ok P w K mg base CX0 1 "_law_is_log" ["log", "now", "count"] spKL := T.oKl
  have OLG : Ok P w K mg base CX0 1 "is_log" ["log", "now", "count"] spLg := T.oLg
  obtain ⟨fL, fdL, FL, mL, kL, bL⟩ := T.lg.ex
  have GL : FnOk P w K mg base CX0 1 fL fdL ["log", "now", "count"] spLg := ok_lg FL T.B T.en T.C
  have kb := FL.kbn0 (ps := ["log", "now", "count"]) (ks := ["count", "now", "log"]) List.reverse Vals.reverse fun _ _ _ _ _ _ us hl => match us, hl with | [_, _, _], _ => rfl
  refine ⟨_, pss_cons (ps_dput hu (pv 4) (pv 6) (c_fn OP hr (pa_cons (pv 2) (pa_cons (pe_lst (pa_cons pe_int (pa_cons pe_int (pa_cons (pe_op op_sub (pe_op op_pow pe_int pe_int) pe_int) pa_nil)))) pa_nil))) rfl)
    (pss_cons (ps_set (i := 7) scL.nd rfl (.inl rfl) (c_fn OB hr (pa_cons (pv 2) (pa_cons (c_fn OLL hr (pa_cons (pv 2) (pa_cons (pe_dget hu (pv 4) (pv 6) (fun _ _ => rfl)) (pa_cons pe_int pa_nil)))) (pa_cons (pv 3) pa_nil)))))
    (pss_cons (ps_dput hu (pv 5) (pv 6) (pv 7) rfl)
    (pss_cons (ps_if (pt_cmpR op_ne (c_repr hG hr B (c_fn OLG hr (pa_cons (pv 7) (pa_cons (pe_dget hu (pv 4) (pv 6) (fun _ _ => rfl)) (pa_cons (pv 3) pa_nil))))) (c_repr hG hr B (c_fn OKL hr (pa_cons (pv 7) (pa_cons (pe_dget hu (pv 4) (pv 6) (fun _ _ => rfl)) (pa_cons (pv 3) pa_nil))))) (nomark _)) (pss_one (ps_ret pe_bl)) pss_nil)
    (pss_one (ps_if (pt_cmpR op_ne (pe_callN0 GL (hr.mono (by decide)) (by rfl) mL kL kb pass0 (pk_cons (pv 3) (pk_cons (pe_dget hu (pv 4) (pv 6) (fun _ _ => rfl)) (pk_cons (c_tuple B (pv 7)) pk_nil)))) (c_fn OKL hr (pa_cons (pv 7) (pa_cons (pe_dget hu (pv 4) (pv 6) (fun _ _ => rfl)) (pa_cons (pv 3) pa_nil)))) (nomark _)) (pss_one (ps_ret pe_bl)) pss_nil))))), ?_⟩
  intro D a ns i s r q x1 x7 x8 x9 x10 x11 x12 x13 H I kp kl hri hq k
  -- pairs[ref] = ..
  refine ⟨_, rfl, _, _, rfl, rfl, ⟨by decide, by decide, by decide⟩, _, _, rfl, rfl, sz3, fun p np => ?_⟩
  have b0 := I.box.keep (Same.new np (o := .lst [.int 0, .int 5, .int (2 ^ 61 - 2)]))
  refine ⟨s.b, p, _, rfl, b0, SqL.of upd_same, I.box.ne np, (by intro z; cases z), (by show 3 < 1073741824; decide), fun v H1 hv f1 b1 => ?_⟩
  obtain ⟨x, rfl, hx⟩ : ∃ x : Int, v = .int x ∧ x ∈ V3 := by
    rcases List.mem_cons.mp hv with rfl | hv
    · exact ⟨0, rfl, by decide⟩
    rcases List.mem_cons.mp hv with rfl | hv
    · exact ⟨5, rfl, by decide⟩
    rcases List.mem_cons.mp hv with rfl | hv
    · exact ⟨2 ^ 61 - 2, rfl, by decide⟩
    · cases hv
  have f01 : Fr s.b H H1 := (Fr.of (Same.new np)).trans f1
  have I1 : LI K a ns s H1 := I.fr f01 b1
  have hq1 : H1 q = some (.tup (r.map V.int)) := f01 _ _ hq (I.box.neT hq)
  obtain ⟨o2, g2, I2, kp2, n2⟩ := I1.put1 kp hri hq1 hx
  refine ⟨_, rfl, _, rfl, s.d1, _, rfl, g2, ?_⟩
  have off2 : ∀ c o, H c = some o → c ≠ s.b → c ≠ s.d1 → c ≠ s.d2 → (upd H1 s.d1 o2) c = some o := fun c o h nb n1 n2 => by rw [upd_ne n1]; exact f01 _ _ h nb
  have hq2 := n2.tup hq1
  clear g2
  generalize upd H1 s.d1 o2 = H2 at I2 n2 off2 hq2 ⊢
  have eg : getR (putR s.ps r x) r = some x := getR_putR (I2.kp.nodup R0_nodup) (putR_end (x := x) kp hri).1
  have getp : ∀ {H' : Hp}, RD rInt.R H' s.d1 (putR s.ps r x) → H' q = some (.tup (r.map V.int)) → DGet H' s.d1 (.ref q) (some (.int x)) := fun {H'} I' hq' => by
    rcases I'.get hq' with ⟨g, _⟩ | ⟨v, y, g, hv, dg⟩
    · rw [eg] at g; cases g
    · rw [eg] at g
      cases g
      cases (show v = .int x from hv)
      exact dg
  -- log = ..
  refine ⟨_, rfl, _, rfl, _, rfl, _, rfl, s.d1, _, rfl, getp I2.r1 hq2, ?_⟩
  refine ⟨s.b, x, rfl, I2.box, V3_pl x hx, fun pl es H3 npl f3 b3 hL3 hg3 => ?_⟩
  refine ⟨_, rfl, s.b, pl, es, s.c, rfl, b3, hL3, I2.box.ne npl, hg3, by have := I.c0; omega, by have := I.c1; omega, fun l es' H4 f4 b4 hL4 nlb hg4 => ?_⟩
  have f24 := f3.trans f4
  have I4 := I2.fr f24 b4
  have hq4 := f24 _ _ hq2 (I2.box.neT hq2)
  -- logs[ref] = log
  obtain ⟨o5, g5, I5, kl5, n5⟩ := I4.put2 kl hri hq4 hL4 nlb hg4
  refine ⟨_, rfl, _, rfl, _, rfl, s.d2, _, rfl, g5, ?_⟩
  have off5 : ∀ c o, H c = some o → c ≠ s.b → c ≠ s.d1 → c ≠ s.d2 → (upd H4 s.d2 o5) c = some o := fun c o h nb n1 n2 => by rw [upd_ne n2]; exact f24 _ _ (off2 c o h nb n1 n2) nb
  have hq5 := n5.tup hq4
  obtain ⟨zs, hl5, hE5⟩ := hL4.keepN n5
  clear g5
  replace I5 : LI K a ns { b := s.b, d1 := s.d1, d2 := s.d2, ps := putR s.ps r x, ls := putR s.ls r es', c := s.c } (upd H4 s.d2 o5) := I5
  generalize upd H4 s.d2 o5 = H5 at I5 n5 off5 hq5 hl5 hE5 ⊢
  -- repr
  refine ⟨_, rfl, _, rfl, _, rfl, s.d1, _, rfl, getp I5.r1 hq5, _, rfl, l, zs, es', x, s.c, rfl, .inl hl5, hE5, fun H6 s6 => ?_⟩
  obtain ⟨r1, r2, r3, r4⟩ := repr_bl (isLogP es' x s.c)
  refine ⟨_, .bool (isLogP es' x s.c), rfl, .bl _, r1, r2, r3, r4, ?_⟩
  refine ⟨_, rfl, _, rfl, _, rfl, s.d1, _, rfl, getp (I5.keep s6).r1 (s6 _ _ hq5), _, rfl, l, es', x, s.c, rfl, ⟨zs, s6 _ _ hl5, hE5.keep s6⟩, fun H7 s7 => ?_⟩
  refine ⟨_, .bool (isLogP es' x s.c), rfl, .bl _, r1, r2, r3, r4, rfl, _, rfl, ?_⟩
  rw [decide_eq_true rfl]
  refine iteF ?_
  have s57 := s6.trans s7
  -- by keywords
  refine ⟨_, rfl, _, rfl, _, rfl, s.d1, _, rfl, getp (I5.keep s57).r1 (s57 _ _ hq5), _, rfl, l, _, rfl, .inl ⟨SqL.of (s57 _ _ hl5), fun t nt => ?_⟩⟩
  have s8 := s57.up nt (o := .tup (refs zs))
  refine ⟨rfl, rfl, t, zs, es', x, s.c, rfl, .inr upd_same, hE5.keep s8, fun H9 s9 => ?_⟩
  have s59 := s8.trans s9
  refine ⟨_, rfl, _, rfl, _, rfl, s.d1, _, rfl, getp (I5.keep s59).r1 (s59 _ _ hq5), _, rfl, l, es', x, s.c, rfl, ⟨zs, s59 _ _ hl5, hE5.keep s59⟩, fun Ha sa => ?_⟩
  refine ⟨rfl, _, rfl, ?_⟩
  rw [decide_eq_true rfl]
  have s5a := s59.trans sa
  exact iteF (k { b := s.b, d1 := s.d1, d2 := s.d2, ps := putR s.ps r x, ls := putR s.ls r es', c := s.c } _ Ha rfl rfl rfl rfl (I5.keep s5a) kp2 kl5 (fun c o h nb n1 n2 => s5a _ _ (off5 c o h nb n1 n2)))
end
end K49
namespace K49
open PySem L2
theorem sz5 : 5 ≤ sizeLine := by decide
/-- rows at the addresses of zs -/
def Rows (H : Hp) (zs : List (Addr × List Int)) : Prop := ∀ z ∈ zs, H z.1 = some (.tup (z.2.map V.int))
section
variable {P : Program} {w : World} {K : PySem.W.Frag} {mg : Str → Option Value} {base : Heap} {f : Addr} {cdv : Value} {A : Around} {outer : List Env} {s0 : Shared} {H0 : Hp} {E : XK}
theorem law_refs (T : Top P K mg) (hG : (XL P w K mg base f cdv A outer s0 H0 E).A.guards = some []) (hr : Room 10 (XL P w K mg base f cdv A outer s0 H0 E).A) :
    ∃ t, PS (XL P w K mg base f cdv A outer s0 H0 E) (hd (bK.drop 3)) t ∧ ∀ (D : Ends) (a : Addr) (ns : List Int) (s : Stt) (x1 x6 x7 x8 x9 x10 x11 x12 x13 : Option V) (H : Hp), LI K a ns s H → s.ps = [] → s.ls = [] →
      (∀ (s' : Stt) (x6' x7' : Option V) H', s'.c = s.c → LI K a ns s' H' → D.nx (SL a s' x1 x6' x7' x8 x9 x10 x11 x12 x13) H') →
      t D (SL a s x1 x6 x7 x8 x9 x10 x11 x12 x13) H := by
  have B := T.B
  have OT : Ok P w K mg base CX0 1 "_law_take" ["box", "many"] spTake := T.oTk
  obtain ⟨tb, htb, hqb⟩ := law_ref (w := w) (base := base) (f := f) (cdv := cdv) (outer := outer) (s0 := s0) (H0 := H0) (E := E) (A := A) T hG hr
  refine ⟨_, (ps_for PassesOwn.never rfl (pi_list (pe_slice sl_list (pe_lst (pa_cons (pe_tup (pa_cons pe_int pa_nil)) (pa_cons (pe_op op_catA (pe_tup (pa_cons pe_int (pa_cons pe_int pa_nil))) (pe_op op_repT (pe_tup (pa_cons pe_int pa_nil)) pe_int)) (pa_cons (pe_tup (pa_cons pe_int (pa_cons pe_int pa_nil))) (pa_cons (pe_tup (pa_cons pe_int (pa_cons pe_int (pa_cons pe_int pa_nil)))) (pa_cons (pe_op op_repT (pe_tup (pa_cons pe_int pa_nil)) pe_int) pa_nil))))))
      po_none (po_some (c_fn OT hr (pa_cons (pv 2) (pa_cons pe_int pa_nil)))))) (pg_name (i := 6) scL.nd rfl (Or.inl rfl)) htb), ?_⟩
  intro D a ns s x1 x6 x7 x8 x9 x10 x11 x12 x13 H I e1 e2 k
  refine ⟨sz1, fun t1 n1 => ?_⟩
  have s1 : Same H (upd H t1 (.tup [.int 1])) := Same.new n1
  have h1 : (upd H t1 (.tup [.int 1])) t1 = some (.tup (([1] : List Int).map V.int)) := upd_same
  generalize upd H t1 (.tup [.int 1]) = H1 at s1 h1 ⊢
  refine ⟨sz2, fun t2 n2 => ?_⟩
  have s2 : Same H1 (upd H1 t2 (.tup [.int 64, .int 3])) := Same.new n2
  have h2 : (upd H1 t2 (.tup [.int 64, .int 3])) t2 = some (.tup [.int 64, .int 3]) := upd_same
  generalize upd H1 t2 (.tup [.int 64, .int 3]) = H2 at s2 h2 ⊢
  refine ⟨sz1, fun u nu => ⟨u, 8, _, rfl, rfl, SqT.of upd_same, (by intro z; cases z), by decide, by decide, by decide, fun v nv => ?_⟩⟩
  have s3 := ((Same.refl H2).up nu (o := .tup [.int 255])).up nv (o := .tup (List.replicate 8 (.int 255)))
  refine catA_of (s3 _ _ h2) (ys := (List.replicate 8 255).map V.int) upd_same (by decide) fun q4 H4 s4 h4 => ?_
  have s24 : Same H2 H4 := s3.trans s4
  clear s3 s4
  refine ⟨sz2, fun t5 n5 => ?_⟩
  have s5 : Same H4 (upd H4 t5 (.tup [.int 1, .int 0])) := Same.new n5
  have h5 : (upd H4 t5 (.tup [.int 1, .int 0])) t5 = some (.tup (([1, 0] : List Int).map V.int)) := upd_same
  generalize upd H4 t5 (.tup [.int 1, .int 0]) = H5 at s5 h5 ⊢
  refine ⟨sz3, fun t6 n6 => ?_⟩
  have s6 : Same H5 (upd H5 t6 (.tup [.int 64, .int 3, .int 9])) := Same.new n6
  have h6 : (upd H5 t6 (.tup [.int 64, .int 3, .int 9])) t6 = some (.tup (([64, 3, 9] : List Int).map V.int)) := upd_same
  generalize upd H5 t6 (.tup [.int 64, .int 3, .int 9]) = H6 at s6 h6 ⊢
  refine ⟨sz1, fun u7 nu7 => ⟨u7, 20, _, rfl, rfl, SqT.of upd_same, (by intro z; cases z), by decide, by decide, by decide, fun t7 n7 => ?_⟩⟩
  have s7 := ((Same.refl H6).up nu7 (o := .tup [.int 200])).up n7 (o := .tup (List.replicate 20 (.int 200)))
  have h7 : (upd (upd H6 u7 (.tup [.int 200])) t7 (.tup (List.replicate 20 (.int 200)))) t7 = some (.tup ((List.replicate 20 200 : List Int).map V.int)) := upd_same
  replace s7 : Same H6 (upd (upd H6 u7 (.tup [.int 200])) t7 (.tup (List.replicate 20 (.int 200)))) := s7
  refine ⟨sz5, fun L nL => ?_⟩
  have nLb : L ≠ s.b := (I.box.keep (((s1.trans s2).trans s24).trans (s5.trans (s6.trans s7)))).ne nL
  have s8 := s7.up nL (o := .lst [.ref t1, .ref q4, .ref t5, .ref t6, .ref t7])
  have hL8 : (upd (upd (upd H6 u7 (.tup [.int 200])) t7 (.tup (List.replicate 20 (.int 200)))) L (.lst [.ref t1, .ref q4, .ref t5, .ref t6, .ref t7])) L = some (.lst [.ref t1, .ref q4, .ref t5, .ref t6, .ref t7]) := upd_same
  have h7' := Same.new nL (o := .lst [.ref t1, .ref q4, .ref t5, .ref t6, .ref t7]) _ _ h7
  let zs : List (Addr × List Int) := [(t1, [1]), (q4, 64 :: 3 :: List.replicate 8 255), (t5, [1, 0]), (t6, [64, 3, 9]), (t7, List.replicate 20 200)]
  have s18 := (((s1.trans s2).trans s24).trans s5).trans (s6.trans s8)
  have s68 := s6.trans s8
  have s58 := s5.trans s68
  have rows : Rows (upd (upd (upd H6 u7 (.tup [.int 200])) t7 (.tup (List.replicate 20 (.int 200)))) L (.lst [.ref t1, .ref q4, .ref t5, .ref t6, .ref t7])) zs := fun z hz => by
    rcases List.mem_cons.mp hz with rfl | hz
    · exact (((s2.trans s24).trans s5).trans s68) _ _ h1
    rcases List.mem_cons.mp hz with rfl | hz
    · exact s58 _ _ h4
    rcases List.mem_cons.mp hz with rfl | hz
    · exact s68 _ _ h5
    rcases List.mem_cons.mp hz with rfl | hz
    · exact s8 _ _ h6
    rcases List.mem_cons.mp hz with rfl | hz
    · exact h7'
    · cases hz
  have I8 := I.keep s18
  have e0 : zs.map (·.2) = R0 := rfl
  refine ⟨_, rfl, s.b, 6, rfl, I8.box, by decide, by decide, fun d H9 d0 d1 f9 b9 => ⟨d, rfl, ?_⟩⟩
  have I9 := I8.fr f9 b9
  have hL9 := f9 _ _ hL8 nLb
  have rows9 : Rows H9 zs := fun z hz => f9 _ _ (rows z hz) (I8.box.neT (rows z hz))
  refine ⟨L, _, rfl, SqL.of hL9, fun p np => ?_⟩
  obtain ⟨kk, rfl⟩ := Int.eq_ofNat_of_zero_le d0
  have ec : cutV [V.ref t1, .ref q4, .ref t5, .ref t6, .ref t7] none (some ((kk : Nat) : Int)) = refs (zs.take kk) := by
    rw [cut_hi]
    exact refs_take zs kk
  rw [ec]
  have s10 : Same H9 (upd H9 p (.lst (refs (zs.take kk)))) := Same.new np
  have hp : (upd H9 p (.lst (refs (zs.take kk)))) p = some (.lst (refs (zs.take kk))) := upd_same
  have npb := I9.box.ne np
  have I10 := I9.keep s10
  have rows10 : Rows (upd H9 p (.lst (refs (zs.take kk)))) zs := fun z hz => s10 _ _ (rows9 z hz)
  clear rows9 rows f9 b9 hL9 h7' hL8 s8 s68 s58 s18 I8 I9
  generalize upd H9 p (.lst (refs (zs.take kk))) = H10 at s10 hp I10 rows10 ⊢
  refine ⟨p, rfl, ⟨_, SqL.of hp⟩, ?_⟩
  refine for_list (K := K) (xs := refs (zs.take kk)) (fun i σ H' => ∃ (s' : Stt) (x6' x7' : Option V), σ = SL a s' x1 x6' x7' x8 x9 x10 x11 x12 x13 ∧ s'.b = s.b ∧ s'.d1 = s.d1 ∧ s'.d2 = s.d2 ∧ s'.c = s.c ∧ LI K a ns s' H' ∧ keysR s'.ps = R0.take i ∧ keysR s'.ls = R0.take i ∧ H' p = some (.lst (refs (zs.take kk))) ∧ Rows H' zs)
    ⟨s, x6, x7, rfl, rfl, rfl, rfl, rfl, I10, by rw [e1]; rfl, by rw [e2]; rfl, hp, rows10⟩ (fun i σ H' _ ⟨s', _, _, _, _, _, _, _, _, _, _, h, _⟩ => SqL.of h) ?_ ?_
  · rintro i x σ H' hx ⟨s', x6', x7', rfl, eb, ed1, ed2, ec', I', kp, kl, hp', rows'⟩
    rw [List.getElem?_map] at hx
    obtain ⟨z, hz, rfl⟩ : ∃ z, (zs.take kk)[i]? = some z ∧ x = .ref z.1 := by
      cases e : (zs.take kk)[i]? with
      | none => rw [e] at hx; cases hx
      | some z => rw [e] at hx; cases hx; exact ⟨z, rfl, rfl⟩
    have hz' : zs[i]? = some z := by
      rw [List.getElem?_take] at hz
      split at hz
      · exact hz
      · cases hz
    have hri : R0[i]? = some z.2 := by rw [← e0, List.getElem?_map, hz']; rfl
    obtain ⟨kv1, hd1⟩ := I'.r1.dT
    obtain ⟨kv2, hd2⟩ := I'.r2.dT
    refine hqb _ a ns i s' z.2 z.1 x1 x7' x8 x9 x10 x11 x12 x13 H' I' kp kl hri (rows' z (List.mem_of_getElem? hz')) fun s'' x7'' H'' q1 q2 q3 q4 I'' kp' kl' off => ?_
    refine ⟨s'', _, _, rfl, q1.trans eb, q2.trans ed1, q3.trans ed2, q4.trans ec', I'', kp', kl', off _ _ hp' (by rw [eb]; exact npb) (ne_of hp' hd1 (by intro z; cases z)) (ne_of hp' hd2 (by intro z; cases z)), fun y hy => ?_⟩
    have hy' := rows' y hy
    exact off _ _ hy' (I'.box.neT hy') (ne_of hy' hd1 (by intro z; cases z)) (ne_of hy' hd2 (by intro z; cases z))
  · rintro σ H' ⟨s', x6', x7', rfl, eb, ed1, ed2, ec', I', kp, kl, hp', rows'⟩
    exact k s' x6' x7' H' ec' I'
end
end K49
namespace K49
open PySem L2
theorem drop_rows (lv : List (List Int × V)) (k : List Int) : dropK (rowsKV lv) (row k) = rowsKV (lv.filter fun e => decide (e.1 ≠ k)) := by
  unfold dropK rowsKV
  rw [List.filter_map]
  congr 1
  refine List.filter_congr fun x _ => ?_
  show decide (row x.1 ≠ row k) = decide (x.1 ≠ k)
  rw [decide_eq_decide]
  exact ⟨fun h e => h (by rw [e]), fun h e => h (row_inj e)⟩
theorem paired_filter {α : Type} {F : V → α → Prop} {lv : List (List Int × V)} {l : List (List Int × α)} (h : Paired (fun (p : List Int × V) (q : List Int × α) => p.1 = q.1 ∧ F p.2 q.2) lv l) (k : List Int) : Paired (fun (p : List Int × V) (q : List Int × α) => p.1 = q.1 ∧ F p.2 q.2) (lv.filter fun e => decide (e.1 ≠ k)) (l.filter fun e => decide (e.1 ≠ k)) := by
  induction h with
  | nil => exact .nil
  | @cons p q ps qs hq t ih =>
    by_cases e : p.1 = k
    · rw [List.filter_cons_of_neg (by simp [e]), List.filter_cons_of_neg (by simp [← hq.1, e])]
      exact ih
    · rw [List.filter_cons_of_pos (by simp [e]), List.filter_cons_of_pos (by simp [← hq.1, e])]
      exact .cons hq ih
theorem RD.pop {α : Type} {r : RV α} {H : Hp} {d : Addr} {l : List (List Int × α)} (h : RD r.R H d l) {k : List Int} (hk : k ∈ keysR l) : ∃ kvs v, H d = some (.dT kvs) ∧ valV kvs (row k) = some v ∧ RD r.R (upd H d (.dT (dropK kvs (row k)))) d (l.filter fun e => decide (e.1 ≠ k)) ∧ KeepN H (upd H d (.dT (dropK kvs (row k)))) := by
  obtain ⟨lv, h1, h2⟩ := h
  have kp : KeepN H (upd H d (.dT (dropK (rowsKV lv) (row k)))) := KeepN.up h1
  rcases pair_val h2 k with ⟨_, e⟩ | ⟨v, a, e1, _, _⟩
  · exact absurd hk (getR_none.mp e)
  · exact ⟨_, v, h1, by rw [val_rows]; exact e1, ⟨_, by rw [upd_same, drop_rows], paired_mono (paired_filter h2 k) fun x y z => ⟨z.1, r.keep kp z.2⟩⟩, kp⟩
theorem keysR_filter {α : Type} (l : List (List Int × α)) (p : List Int × α → Bool) : (keysR (l.filter p)).Sublist (keysR l) := List.Sublist.map _ List.filter_sublist
section
variable {K : PySem.W.Frag} {a : Addr} {ns : List Int} {s : Stt} {H : Hp} {r : List Int}
theorem LI.pop1 (I : LI K a ns s H) (hr : r ∈ keysR s.ps) : ∃ kvs v, H s.d1 = some (.dT kvs) ∧ valV kvs (row r) = some v ∧ LI K a ns { s with ps := s.ps.filter fun e => decide (e.1 ≠ r) } (upd H s.d1 (.dT (dropK kvs (row r)))) := by
  obtain ⟨kvs, v, e1, e2, h1, k⟩ := I.r1.pop hr
  refine ⟨kvs, v, e1, e2, I.sc.by fun o' h => k _ _ h (fun _ z => by cases z), ?_, h1, I.r2.keep k (fun o' h => by rw [upd_ne I.ne.symm]; exact h), I.ne, I.c0, I.c1, (keysR_filter _ _).trans I.kp, I.kl, fun e he => I.gp e (List.mem_filter.mp he).1, I.gl⟩
  obtain ⟨g, r, hb⟩ := I.box
  exact ⟨g, r, k.lst hb⟩
theorem LI.pop2 (I : LI K a ns s H) (hr : r ∈ keysR s.ls) : ∃ kvs v, H s.d2 = some (.dT kvs) ∧ valV kvs (row r) = some v ∧ LI K a ns { s with ls := s.ls.filter fun e => decide (e.1 ≠ r) } (upd H s.d2 (.dT (dropK kvs (row r)))) := by
  obtain ⟨kvs, v, e1, e2, h2, k⟩ := I.r2.pop hr
  refine ⟨kvs, v, e1, e2, I.sc.by fun o' h => k _ _ h (fun _ z => by cases z), ?_, I.r1.keep k (fun o' h => by rw [upd_ne I.ne]; exact h), h2, I.ne, I.c0, I.c1, I.kp, (keysR_filter _ _).trans I.kl, I.gp, fun e he => I.gl e (List.mem_filter.mp he).1⟩
  obtain ⟨g, r, hb⟩ := I.box
  exact ⟨g, r, k.lst hb⟩
end
section
variable {P : Program} {w : World} {K : PySem.W.Frag} {mg : Str → Option Value} {base : Heap} {f : Addr} {cdv : Value} {A : Around} {outer : List Env} {s0 : Shared} {H0 : Hp} {E : XK}
theorem c_lenT {X : Cx} {e : Expr} {te : TE} {p pos : Pos} (B : Blt X.mg) (he : PE X e te) (hg : Gl X "len" := by rfl) (h1 : starEach (e :: []) X.env = (false, eval e X.env) :: starEach [] X.env := by rfl) (h2 : (backTo pos (starEach [] X.env)).any (·.1) = false := by rfl) :
    PE X (.Call (.Name "len" p) [e] [] pos) (tCB rLenT (tCons te tNil)) := pe_callB call_len_dT hg B.len PySem.boot_len (pa_cons he pa_nil h1) (by decide) (by decide) h1 h2
theorem law_pop1 (T : Top P K mg) (hr : Room 10 (XL P w K mg base f cdv A outer s0 H0 E).A) :
    ∃ t, PS (XL P w K mg base f cdv A outer s0 H0 E) (hd (bK.drop 4)) t ∧ ∀ (D : Ends) (a : Addr) (ns : List Int) (s : Stt) (x1 x6 x7 x8 x9 x10 x11 x12 x13 : Option V) (H : Hp), LI K a ns s H →
      (∀ (s' : Stt) H', s'.c = s.c → LI K a ns s' H' → D.nx (SL a s' x1 x6 x7 x8 x9 x10 x11 x12 x13) H') →
      t D (SL a s x1 x6 x7 x8 x9 x10 x11 x12 x13) H := by
  have B := T.B
  have hu := hu_of hr
  have hu70 := hu70_of hr
  have OT : Ok P w K mg base CX0 1 "_law_take" ["box", "many"] spTake := T.oTk
  refine ⟨_, ps_if (PW.pt (pw_and (pt_cmpR op_eq (c_fn OT hr (pa_cons (pv 2) (pa_cons pe_int pa_nil))) pe_int (nomark _)) (pw_and1 (pt_cmpR op_gt (c_lenT B (pv 4)) pe_int (nomark _)))))
      (pss_one (ps_expr (pe_bm PySem.F.plainAttrs_dict PySem.F.slot_dict_pop PySem.F.type_dict_pop (mt_pop1T hu) (pv 4) (pa_cons (pe_ix ix_list (c_sortedDT rfl hu70 B (pv 4)) pe_int (fun _ _ => rfl)) pa_nil)))) pss_nil, ?_⟩
  intro D a ns s x1 x6 x7 x8 x9 x10 x11 x12 x13 H I k
  refine ⟨_, rfl, s.b, 8, rfl, I.box, by decide, by decide, fun d H1 d0 d1 f1 b1 => ?_⟩
  have I1 := I.fr f1 b1
  obtain ⟨lv, h1, p1⟩ := id I1.r1
  have kk := paired_keys p1
  refine ⟨rfl, _, rfl, ?_⟩
  by_cases c1 : d = 0
  · rw [decide_eq_true (show V.int d = V.int 0 by rw [c1])]
    refine iteT ⟨_, rfl, s.d1, _, rfl, h1, _, _, rfl, rfl, _, rfl, ite2 (fun h => ?_) (fun _ => k s H1 rfl I1)⟩
    have hpos : 0 < lv.length := by have := of_decide_eq_true h; rw [List.length_map] at this; omega
    have ens : (rowsKV lv).map (·.1) = (keysR s.ps).map row := by rw [← kk, List.map_map, List.map_map]; rfl
    refine ⟨_, rfl, tyd h1, _, rfl, s.d1, _, keysR s.ps, rfl, .inl h1, ens, (fun r hr z => by have := (I1.M.rf r hr).2.1; rw [z] at this; exact absurd this (by decide)), fun L zs nL hz hzs => ?_⟩
    have lz : zs.length = lv.length := by
      have := congrArg List.length hz
      rw [List.length_map] at this
      rw [this, ← List.length_map (f := fun e : List Int × V => e.1), kk]
      exact (List.mergeSort_perm _ _).length_eq
    obtain ⟨z, hz0⟩ : ∃ z, zs[0]? = some z := ⟨_, List.getElem?_eq_getElem (by omega)⟩
    have hin : z.2 ∈ keysR s.ps := by
      rw [← sortRows_mem, ← hz]
      exact List.mem_map.mpr ⟨z, List.mem_of_getElem? hz0, rfl⟩
    have I2 := I1.keep (Same.new nL (o := .lst (zs.map fun z => V.ref z.1)))
    have hzq := Same.new nL (o := .lst (zs.map fun z => V.ref z.1)) _ _ (hzs z (List.mem_of_getElem? hz0))
    obtain ⟨kvs, v, g1, g2, I3⟩ := I2.pop1 hin
    refine ⟨L, _, _, _, rfl, rfl, SqL.of upd_same, atI_nat (j := 0) (by rw [List.getElem?_map, hz0]; rfl), ?_⟩
    refine ⟨s.d1, kvs, row z.2, z.1, v, rfl, rfl, g1, by rw [row_kV]; exact hzq, g2, k { s with ps := s.ps.filter fun e => decide (e.1 ≠ z.2) } _ rfl I3⟩
  · rw [decide_eq_false (show ¬ V.int d = V.int 0 from fun z => c1 (by injection z))]
    exact iteF (k s H1 rfl I1)
theorem law_pop2 (T : Top P K mg) (hr : Room 10 (XL P w K mg base f cdv A outer s0 H0 E).A) :
    ∃ t, PS (XL P w K mg base f cdv A outer s0 H0 E) (hd (bK.drop 5)) t ∧ ∀ (D : Ends) (a : Addr) (ns : List Int) (s : Stt) (x1 x6 x7 x8 x9 x10 x11 x12 x13 : Option V) (H : Hp), LI K a ns s H →
      (∀ (s' : Stt) H', s'.c = s.c → LI K a ns s' H' → D.nx (SL a s' x1 x6 x7 x8 x9 x10 x11 x12 x13) H') →
      t D (SL a s x1 x6 x7 x8 x9 x10 x11 x12 x13) H := by
  have B := T.B
  have hu := hu_of hr
  have hu70 := hu70_of hr
  have OT : Ok P w K mg base CX0 1 "_law_take" ["box", "many"] spTake := T.oTk
  refine ⟨_, ps_if (PW.pt (pw_and (pt_cmpR op_eq (c_fn OT hr (pa_cons (pv 2) (pa_cons pe_int pa_nil))) pe_int (nomark _)) (pw_and1 (pt_cmpR op_gt (c_lenT B (pv 5)) pe_int (nomark _)))))
      (pss_one (ps_expr (pe_bm PySem.F.plainAttrs_dict PySem.F.slot_dict_pop PySem.F.type_dict_pop (mt_pop1T hu) (pv 5) (pa_cons (pe_ix ix_list (c_sortedDT rfl hu70 B (pv 5)) pe_int (fun _ _ => rfl)) pa_nil)))) pss_nil, ?_⟩
  intro D a ns s x1 x6 x7 x8 x9 x10 x11 x12 x13 H I k
  refine ⟨_, rfl, s.b, 8, rfl, I.box, by decide, by decide, fun d H1 d0 d1 f1 b1 => ?_⟩
  have I1 := I.fr f1 b1
  obtain ⟨lv, h1, p1⟩ := id I1.r2
  have kk := paired_keys p1
  refine ⟨rfl, _, rfl, ?_⟩
  by_cases c1 : d = 0
  · rw [decide_eq_true (show V.int d = V.int 0 by rw [c1])]
    refine iteT ⟨_, rfl, s.d2, _, rfl, h1, _, _, rfl, rfl, _, rfl, ite2 (fun h => ?_) (fun _ => k s H1 rfl I1)⟩
    have hpos : 0 < lv.length := by have := of_decide_eq_true h; rw [List.length_map] at this; omega
    have ens : (rowsKV lv).map (·.1) = (keysR s.ls).map row := by rw [← kk, List.map_map, List.map_map]; rfl
    refine ⟨_, rfl, tyd h1, _, rfl, s.d2, _, keysR s.ls, rfl, .inl h1, ens, (fun r hr z => by have := (I1.M.rl r hr).2.1; rw [z] at this; exact absurd this (by decide)), fun L zs nL hz hzs => ?_⟩
    have lz : zs.length = lv.length := by
      have := congrArg List.length hz
      rw [List.length_map] at this
      rw [this, ← List.length_map (f := fun e : List Int × V => e.1), kk]
      exact (List.mergeSort_perm _ _).length_eq
    obtain ⟨z, hz0⟩ : ∃ z, zs[0]? = some z := ⟨_, List.getElem?_eq_getElem (by omega)⟩
    have hin : z.2 ∈ keysR s.ls := by
      rw [← sortRows_mem, ← hz]
      exact List.mem_map.mpr ⟨z, List.mem_of_getElem? hz0, rfl⟩
    have I2 := I1.keep (Same.new nL (o := .lst (zs.map fun z => V.ref z.1)))
    have hzq := Same.new nL (o := .lst (zs.map fun z => V.ref z.1)) _ _ (hzs z (List.mem_of_getElem? hz0))
    obtain ⟨kvs, v, g1, g2, I3⟩ := I2.pop2 hin
    refine ⟨L, _, _, _, rfl, rfl, SqL.of upd_same, atI_nat (j := 0) (by rw [List.getElem?_map, hz0]; rfl), ?_⟩
    refine ⟨s.d2, kvs, row z.2, z.1, v, rfl, rfl, g1, by rw [row_kV]; exact hzq, g2, k { s with ls := s.ls.filter fun e => decide (e.1 ≠ z.2) } _ rfl I3⟩
  · rw [decide_eq_false (show ¬ V.int d = V.int 0 from fun z => c1 (by injection z))]
    exact iteF (k s H1 rfl I1)
end
end K49
namespace K49
open PySem L2
/-! ### what items mean, in whichever order they come -/
inductive Kd where
  | pair (r : List Int) (p : Int)
  | log (r : List Int) (es : List Ent)
  | cnt (c : Int)
  | oth (k v : List Int)
def Kd.item : Kd → Item
  | .pair r p => (82 :: r, be 8 p)
  | .log r es => (76 :: r, logOct es)
  | .cnt c => ([76], be 8 c)
  | .oth k v => (k, v)
def Kd.pairO : Kd → Option (List Int × Int)
  | .pair r p => some (r, p)
  | _ => none
def Kd.logO : Kd → Option (List Int × List Ent)
  | .log r es => some (r, es)
  | _ => none
def Kd.cntO : Kd → Option Int
  | .cnt c => some c
  | _ => none
def Kd.Good : Kd → Prop
  | .pair r p => goodF r (be 8 p) = true ∧ num (be 8 p) = p
  | .log r es => r ≠ [] ∧ goodL r (logOct es) = true ∧ logOf ((logOct es).length / 26) (logOct es) = es
  | .cnt c => num (be 8 c) = c
  | .oth k v => ∃ x r, k = x :: r ∧ x ≠ 82 ∧ x ≠ 76
def lastC : Int → List Kd → Int
  | c, [] => c
  | c, k :: ks => lastC (k.cntO.getD c) ks
theorem lastC_is {c : Int} : ∀ (ks : List Kd) (c0 : Int), (∀ k ∈ ks, ∀ c', k.cntO = some c' → c' = c) → (c0 = c ∨ ∃ k ∈ ks, k.cntO ≠ none) → lastC c0 ks = c
  | [], c0, _, h => h.elim id fun ⟨k, hk, _⟩ => by cases hk
  | k :: ks, c0, h1, h2 => by
    refine lastC_is ks _ (fun k' hk' => h1 k' (List.mem_cons_of_mem _ hk')) ?_
    cases e : k.cntO with
    | some c' => exact .inl (h1 k (List.mem_cons_self ..) c' e)
    | none =>
      rcases h2 with h2 | ⟨k', hk', h3⟩
      · exact .inl h2
      · rcases List.mem_cons.mp hk' with rfl | hk'
        · exact absurd e h3
        · exact .inr ⟨k', hk', h3⟩
theorem nodup_mid {α : Type} {xs ys : List α} {x : α} (h : (xs ++ x :: ys).Nodup) : x ∉ xs ∧ ((xs ++ [x]) ++ ys).Nodup := by
  constructor
  · intro hx
    rw [List.nodup_append] at h
    exact h.2.2 x hx x (List.mem_cons_self ..) rfl
  · rw [List.append_assoc]
    exact h
theorem run_kinds : ∀ (ks : List Kd) (s : MSt), (∀ k ∈ ks, k.Good) → (keysR s.found ++ keysR (ks.filterMap Kd.pairO)).Nodup → (keysR s.logs ++ keysR (ks.filterMap Kd.logO)).Nodup → runM s (ks.map Kd.item) = .inr ⟨s.found ++ ks.filterMap Kd.pairO, s.logs ++ ks.filterMap Kd.logO, lastC s.count ks⟩
  | [], s, _, _, _ => by
    show Sum.inr s = _
    rw [List.filterMap_nil, List.filterMap_nil, List.append_nil, List.append_nil]
    rfl
  | k :: ks, s, hg, n1, n2 => by
    have hk := hg k (List.mem_cons_self ..)
    have hg' : ∀ k ∈ ks, k.Good := fun k' h => hg k' (List.mem_cons_of_mem _ h)
    rw [List.map_cons, runM]
    cases k with
    | pair r p =>
      rw [List.filterMap_cons_some (f := Kd.pairO) (a := Kd.pair r p) (b := (r, p)) rfl] at n1
      rw [List.filterMap_cons_none rfl] at n2
      obtain ⟨h1, h2⟩ := hk
      obtain ⟨m1, m2⟩ := nodup_mid n1
      rw [show Kd.item (.pair r p) = (82 :: r, be 8 p) from rfl, step_f h1, h2, putR_new m1]
      simp only
      rw [run_kinds ks ⟨s.found ++ [(r, p)], s.logs, s.count⟩ hg' (by show (keysR (s.found ++ [(r, p)]) ++ _).Nodup; rw [show keysR (s.found ++ [(r, p)]) = keysR s.found ++ [r] from List.map_append]; exact m2) n2, List.filterMap_cons_some (f := Kd.pairO) (a := Kd.pair r p) (b := (r, p)) rfl, List.filterMap_cons_none (f := Kd.logO) rfl, List.append_assoc]
      rfl
    | log r es =>
      rw [List.filterMap_cons_none rfl] at n1
      rw [List.filterMap_cons_some (f := Kd.logO) (a := Kd.log r es) (b := (r, es)) rfl] at n2
      obtain ⟨h0, h1, h2⟩ := hk
      obtain ⟨m1, m2⟩ := nodup_mid n2
      rw [show Kd.item (.log r es) = (76 :: r, logOct es) from rfl, step_l h0 h1, h2, putR_new m1]
      simp only
      rw [run_kinds ks ⟨s.found, s.logs ++ [(r, es)], s.count⟩ hg' n1 (by show (keysR (s.logs ++ [(r, es)]) ++ _).Nodup; rw [show keysR (s.logs ++ [(r, es)]) = keysR s.logs ++ [r] from List.map_append]; exact m2), List.filterMap_cons_none (f := Kd.pairO) rfl, List.filterMap_cons_some (f := Kd.logO) (a := Kd.log r es) (b := (r, es)) rfl, List.append_assoc]
      rfl
    | cnt c =>
      rw [List.filterMap_cons_none rfl] at n1 n2
      rw [show Kd.item (.cnt c) = ([76], be 8 c) from rfl, step_c (be_length 8 c), show num (be 8 c) = c from hk]
      simp only
      rw [run_kinds ks ⟨s.found, s.logs, c⟩ hg' n1 n2, List.filterMap_cons_none (f := Kd.pairO) rfl, List.filterMap_cons_none (f := Kd.logO) rfl]
      rfl
    | oth k v =>
      rw [List.filterMap_cons_none rfl] at n1 n2
      obtain ⟨x, r, rfl, h1, h2⟩ := hk
      rw [show Kd.item (.oth (x :: r) v) = (x :: r, v) from rfl, step_o h1 h2]
      simp only
      rw [run_kinds ks s hg' n1 n2, List.filterMap_cons_none (f := Kd.pairO) rfl, List.filterMap_cons_none (f := Kd.logO) rfl]
      rfl
theorem getR_in {α : Type} {l : List (List Int × α)} {k : List Int} {a : α} (h : getR l k = some a) : (k, a) ∈ l := by
  unfold getR at h
  cases e : l.find? fun e => decide (e.1 = k) with
  | none => rw [e] at h; cases h
  | some x =>
    rw [e] at h
    cases h
    have h1 := List.find?_some e
    rw [← of_decide_eq_true h1]
    exact List.mem_of_find?_eq_some e
theorem getR_perm {α : Type} {l m : List (List Int × α)} (p : l.Perm m) (nd : (keysR l).Nodup) (k : List Int) : getR l k = getR m k := by
  have nd' : (keysR m).Nodup := (p.map _).nodup_iff.mp nd
  cases e : getR l k with
  | some a => exact (getR_mem nd' (p.mem_iff.mp (getR_in e))).symm
  | none =>
    cases e2 : getR m k with
    | none => rfl
    | some a =>
      rw [getR_mem nd (p.mem_iff.mpr (getR_in e2))] at e
      cases e
theorem same_meaning {s s' : MSt} {n : Nat} (M : MOk s n) (pf : s'.found.Perm s.found) (pl : s'.logs.Perm s.logs) (ec : s'.count = s.count) : firstBad s' = firstBad s ∧ toldD s' = toldD s := by
  have nf' : (keysR s'.found).Nodup := (pf.map _).nodup_iff.mpr M.nf
  have nl' : (keysR s'.logs).Nodup := (pl.map _).nodup_iff.mpr M.nl
  have kf : ∀ x, x ∈ keysR s'.found ↔ x ∈ keysR s.found := fun x => (pf.map _).mem_iff
  have kl : ∀ x, x ∈ keysR s'.logs ↔ x ∈ keysR s.logs := fun x => (pl.map _).mem_iff
  have nk' : (keysM s').Nodup := by
    unfold keysM
    rw [List.nodup_append]
    refine ⟨nf', nl'.filter _, fun x hx y hy z => ?_⟩
    subst z
    exact of_decide_eq_true (List.mem_filter.mp hy).2 hx
  have er : refBad s' = refBad s := by
    funext r
    unfold refBad
    rw [getR_perm pf nf', getR_perm pl nl', ec]
  constructor
  · unfold firstBad
    rw [er, sortRows_same nk' (keysM_nodup M) fun x => by rw [keysM_mem, keysM_mem, kf, kl]]
  · unfold toldD foundD logsD
    rw [sortK_perm pf nf', sortK_perm pl nl', ec]
def kindsOf (s : MSt) : List Kd := [.cnt s.count, .oth [66] (be 8 3), .oth [79, 1, 2] [4, 5], .oth [83] []] ++ s.found.map (fun e => Kd.pair e.1 e.2) ++ s.logs.map (fun e => Kd.log e.1 e.2)
theorem kinds_pairs (s : MSt) : (kindsOf s).filterMap Kd.pairO = s.found := by
  unfold kindsOf
  rw [List.filterMap_append, List.filterMap_append, List.filterMap_map, List.filterMap_map]
  have e1 : s.found.filterMap (Kd.pairO ∘ fun e => Kd.pair e.1 e.2) = s.found := by
    have : (Kd.pairO ∘ fun e : List Int × Int => Kd.pair e.1 e.2) = some := rfl
    rw [this, List.filterMap_some]
  have e2 : s.logs.filterMap (Kd.pairO ∘ fun e => Kd.log e.1 e.2) = [] := by
    rw [List.filterMap_eq_nil_iff]
    exact fun _ _ => rfl
  rw [e1, e2, List.append_nil]
  rfl
theorem kinds_logs (s : MSt) : (kindsOf s).filterMap Kd.logO = s.logs := by
  unfold kindsOf
  rw [List.filterMap_append, List.filterMap_append, List.filterMap_map, List.filterMap_map]
  have e1 : s.logs.filterMap (Kd.logO ∘ fun e => Kd.log e.1 e.2) = s.logs := by
    have : (Kd.logO ∘ fun e : List Int × List Ent => Kd.log e.1 e.2) = some := rfl
    rw [this, List.filterMap_some]
  have e2 : s.found.filterMap (Kd.logO ∘ fun e => Kd.pair e.1 e.2) = [] := by
    rw [List.filterMap_eq_nil_iff]
    exact fun _ _ => rfl
  rw [e1, e2]
  rfl
theorem heard_due {s : MSt} {n : Nat} {ks : List Kd} (M : MOk s n) (hp : ks.Perm (kindsOf s)) (hg : ∀ k ∈ kindsOf s, k.Good) : heardD (ks.map Kd.item) = dueD s := by
  have p1 : (ks.filterMap Kd.pairO).Perm s.found := by rw [← kinds_pairs s]; exact hp.filterMap _
  have p2 : (ks.filterMap Kd.logO).Perm s.logs := by rw [← kinds_logs s]; exact hp.filterMap _
  have hr := run_kinds ks m0 (fun k hk => hg k (hp.mem_iff.mp hk)) (by show ([] ++ _ : List (List Int)).Nodup; rw [List.nil_append]; exact (p1.map _).nodup_iff.mpr M.nf) (by show ([] ++ _ : List (List Int)).Nodup; rw [List.nil_append]; exact (p2.map _).nodup_iff.mpr M.nl)
  have hc : lastC m0.count ks = s.count := by
    refine lastC_is ks _ (fun k hk c' e => ?_) (.inr ⟨.cnt s.count, hp.mem_iff.mpr (by unfold kindsOf; simp), by intro z; cases z⟩)
    have := hp.mem_iff.mp hk
    unfold kindsOf at this
    rcases List.mem_append.mp this with h | h
    · rcases List.mem_append.mp h with h | h
      · rcases List.mem_cons.mp h with rfl | h
        · cases e; rfl
        rcases List.mem_cons.mp h with rfl | h
        · cases e
        rcases List.mem_cons.mp h with rfl | h
        · cases e
        rcases List.mem_cons.mp h with rfl | h
        · cases e
        · cases h
      · obtain ⟨x, _, rfl⟩ := List.mem_map.mp h
        cases e
    · obtain ⟨x, _, rfl⟩ := List.mem_map.mp h
      cases e
  rw [hc] at hr
  obtain ⟨e1, e2⟩ := same_meaning (s' := ⟨m0.found ++ ks.filterMap Kd.pairO, m0.logs ++ ks.filterMap Kd.logO, s.count⟩) M p1 p2 rfl
  unfold heardD meaning dueD
  rw [hr]
  simp only
  rw [e1]
  cases firstBad s with
  | some r => rfl
  | none => simp only; rw [e2]
end K49
namespace K49
open PySem L2
/-! ### what repr asks of what is told -/
structure Shw (x : PyData) (n dp : Nat) : Prop where
  s : x.showable = true
  h : x.hasDict = false
  d : x.depth ≤ dp
  l : x.leavesShort 24 = true
  b : x.bulk ≤ n
structure ShwA (ds : List PyData) (n dp : Nat) : Prop where
  s : PyData.showableAll ds = true
  h : PyData.hasDictAll ds = false
  d : PyData.depthAll ds ≤ dp
  l : PyData.leavesShortAll 24 ds = true
  b : PyData.bulkAll ds ≤ n
theorem Shw.mono {d : PyData} {n m dp dq : Nat} (x : Shw d n dp) (h1 : n ≤ m) (h2 : dp ≤ dq) : Shw d m dq := ⟨x.s, x.h, Nat.le_trans x.d h2, x.l, Nat.le_trans x.b h1⟩
theorem ShwA.mono {d : List PyData} {n m dp dq : Nat} (x : ShwA d n dp) (h1 : n ≤ m) (h2 : dp ≤ dq) : ShwA d m dq := ⟨x.s, x.h, Nat.le_trans x.d h2, x.l, Nat.le_trans x.b h1⟩
theorem ShwA.nil {dp : Nat} : ShwA [] 0 dp := ⟨by rw [PyData.showableAll], by rw [PyData.hasDictAll], by rw [PyData.depthAll]; omega, by rw [PyData.leavesShortAll], by rw [PyData.bulkAll]; omega⟩
theorem ShwA.cons {x : PyData} {xs : List PyData} {n m dp : Nat} (h : Shw x n dp) (t : ShwA xs m dp) : ShwA (x :: xs) (n + 1 + m) dp := by
  have h1 := h.d
  have h2 := t.d
  have h3 := h.b
  have h4 := t.b
  exact ⟨by rw [PyData.showableAll, h.s, t.s]; rfl, by rw [PyData.hasDictAll, h.h, t.h]; rfl, by rw [PyData.depthAll]; omega, by rw [PyData.leavesShortAll, h.l, t.l]; rfl, by rw [PyData.bulkAll]; omega⟩
theorem Shw.tup {xs : List PyData} {n dp : Nat} (h : ShwA xs n dp) : Shw (.tuple xs) n (dp + 1) := by
  have h1 := h.d
  exact ⟨by rw [PyData.showable]; exact h.s, by rw [PyData.hasDict]; exact h.h, by rw [PyData.depth]; omega, by rw [PyData.leavesShort]; exact h.l, by rw [PyData.bulk]; exact h.b⟩
theorem Shw.int {i : Int} (h : i.natAbs < 2 ^ 64) : Shw (.int i) 0 0 := by
  refine ⟨?_, by rw [PyData.hasDict], by rw [PyData.depth]; omega, ?_, by rw [PyData.bulk]; omega⟩
  · rw [PyData.showable, decide_eq_true_eq]
    by_cases e : i.natAbs = 0
    · rw [e]; decide
    · exact Nat.lt_trans ((Nat.log2_lt e).mpr h) (by decide)
  · rw [PyData.leavesShort, decide_eq_true_eq]
    have e := int_text_length_le10 (k := 20) (a := i) (by decide) (Nat.lt_trans h (by decide))
    show (Str.ofString (toString i)).length ≤ 24
    rw [PyProof.Rows.ofString_length]
    exact Nat.le_trans (Nat.le_of_eq String.length_toList) (Nat.le_trans e (by decide))
theorem Shw.non : Shw .none 0 0 := ⟨by rw [PyData.showable], by rw [PyData.hasDict], by rw [PyData.depth]; omega, by rw [PyData.leavesShort], by rw [PyData.bulk]; omega⟩
theorem shwA_map {α : Type} {f : α → PyData} {n dp : Nat} : ∀ (l : List α), (∀ x ∈ l, Shw (f x) n dp) → ShwA (l.map f) ((n + 1) * l.length) dp
  | [], _ => ShwA.nil
  | x :: l, h => (ShwA.cons (h x (List.mem_cons_self ..)) (shwA_map l fun y hy => h y (List.mem_cons_of_mem _ hy))).mono (by rw [List.length_cons, Nat.mul_succ]; omega) (Nat.le_refl _)
theorem shw_row {ns : List Int} (o : Octs ns) (h : ns.length ≤ 21) : Shw (rowD ns) 21 1 := by
  have := shwA_map (f := PyData.int) (n := 0) (dp := 0) ns fun x hx => Shw.int (by have := o x hx; have : x.natAbs < 256 := (by omega); exact Nat.lt_trans this (by decide))
  exact Shw.tup (this.mono (by omega) (Nat.le_refl _))
theorem shw_pl {p : Option Int} (h : plOk p = true) : Shw (plD p) 0 0 := by
  cases p with
  | none => exact .non
  | some i =>
    have := of_decide_eq_true h
    refine .int ?_
    have h1 : i < 2305843009213693951 := this.2
    have h0 := this.1
    have : i.natAbs < 2305843009213693951 := by omega
    exact Nat.lt_trans this (by decide)
theorem shw_ent {e : Ent} (h : EntG e) : Shw (entD e) 3 1 :=
  Shw.tup ((ShwA.cons (Shw.int (by have := h.1; have : e.1.natAbs < 101 := (by omega); exact Nat.lt_trans this (by decide))) (ShwA.cons (shw_pl h.2.1) (ShwA.cons (shw_pl h.2.2) ShwA.nil))).mono (by omega) (Nat.le_refl _))
theorem shw_log {es : List Ent} (h : LogG es) : Shw (logD es) 32 2 := Shw.tup ((shwA_map es fun e he => shw_ent (h.2.2 e he)).mono (by have := h.2.1; omega) (Nat.le_refl _))
theorem sortK_len {α : Type} (l : List (List Int × α)) : (sortK l).length = l.length := (List.mergeSort_perm l _).length_eq
theorem shw_told {s : MSt} (M : MOk s 5) (gp : ∀ e ∈ s.found, plOk (some e.2) = true) (gl : ∀ e ∈ s.logs, LogG e.2) (c0 : 0 ≤ s.count) (c1 : s.count ≤ 42) : Shw (toldD s) 1000 10 := by
  have h1 : Shw (foundD s.found) 200 3 := by
    refine Shw.tup ((shwA_map (n := 30) (dp := 2) (sortK s.found) fun e he => ?_).mono (by rw [sortK_len]; have := M.lf; omega) (Nat.le_refl _))
    have he := List.mem_mergeSort.mp he
    have hr := M.rf e.1 (List.mem_map.mpr ⟨e, he, rfl⟩)
    have hp : Shw (PyData.int e.2) 0 0 := shw_pl (gp e he)
    exact (Shw.tup (ShwA.cons (shw_row hr.1 (by have := hr.2.2; omega)) (ShwA.cons (hp.mono (Nat.le_refl _) (Nat.zero_le 1)) ShwA.nil))).mono (by omega) (by omega)
  have h2 : Shw (logsD s.logs) 400 4 := by
    refine Shw.tup ((shwA_map (n := 60) (dp := 3) (sortK s.logs) fun e he => ?_).mono (by rw [sortK_len]; have := M.ll; omega) (Nat.le_refl _))
    have he := List.mem_mergeSort.mp he
    have hr := M.rl e.1 (List.mem_map.mpr ⟨e, he, rfl⟩)
    exact (Shw.tup (ShwA.cons ((shw_row hr.1 (by have := hr.2.2; omega)).mono (Nat.le_refl _) (by omega : 1 ≤ 2)) (ShwA.cons (shw_log (gl e he)) ShwA.nil))).mono (by omega) (by omega)
  have h3 : Shw (PyData.int s.count) 0 0 := .int (by have : s.count.natAbs < 43 := (by omega); exact Nat.lt_trans this (by decide))
  exact (Shw.tup (ShwA.cons (h1.mono (Nat.le_refl _) (by omega : 3 ≤ 4)) (ShwA.cons h2 (ShwA.cons (h3.mono (Nat.le_refl _) (by omega)) ShwA.nil)))).mono (by omega) (by omega)
theorem shw_s1 : Shw (.str "told") 4 0 := ⟨by rw [PyData.showable], by rw [PyData.hasDict], by rw [PyData.depth]; omega, by decide +kernel, by rw [PyData.bulk]; decide +kernel⟩
theorem shw_s2 : Shw (.str "broken") 6 0 := ⟨by rw [PyData.showable], by rw [PyData.hasDict], by rw [PyData.depth]; omega, by decide +kernel, by rw [PyData.bulk]; decide +kernel⟩
theorem shw_due {s : MSt} (M : MOk s 5) (gp : ∀ e ∈ s.found, plOk (some e.2) = true) (gl : ∀ e ∈ s.logs, LogG e.2) (c0 : 0 ≤ s.count) (c1 : s.count ≤ 42) : Shw (dueD s) 2000 20 := by
  unfold dueD
  cases e : firstBad s with
  | none => exact (Shw.tup (ShwA.cons (shw_s1.mono (Nat.le_refl _) (by omega : 0 ≤ 10)) (ShwA.cons (shw_told M gp gl c0 c1) ShwA.nil))).mono (by omega) (by omega)
  | some r =>
    have hr : RefOk r := by
      have hm := sortRows_mem.mp (List.mem_of_find?_eq_some e)
      exact ((keysM_mem r).mp hm).elim (M.rf r) (M.rl r)
    refine (Shw.tup (ShwA.cons (shw_s2.mono (Nat.le_refl _) (by omega : 0 ≤ 1)) (ShwA.cons (shw_row (ns := 76 :: r) (fun x hx => ?_) (by rw [List.length_cons]; have := hr.2.2; omega)) ShwA.nil))).mono (by omega) (by omega)
    rcases List.mem_cons.mp hx with rfl | hx
    · decide
    · exact hr.1 x hx
theorem Shw.asks {d : PyData} {n dp : Nat} (h : Shw d n dp) (hn : n ≤ 2000) (hd : dp ≤ 100) : d.showable = true ∧ d.hasDict = false ∧ d.depth ≤ 100 ∧ d.shown.length ≤ sizeLine := by
  refine ⟨h.s, h.h, Nat.le_trans h.d hd, ?_⟩
  have h1 := PyData.shown_le_bulk 24 (by decide) d h.l
  have h2 := h.b
  exact Nat.le_trans h1 (Nat.le_trans (m := 60000) (by omega) (by decide))
end K49
namespace K49
open PySem L2
/-! ### the kinds of items that the law lays are good -/
theorem plOk_b8 {p : Option Int} (h : plOk p = true) : ∀ i, p = some i → B8 i := fun i e => by
  rw [e] at h
  have := of_decide_eq_true h
  have h1 : i < 2305843009213693951 := this.2
  refine ⟨this.1, Int.lt_trans h1 (by decide)⟩
theorem entG_ok {e : Ent} (h : EntG e) : EntOk e := ⟨⟨h.1.1, Int.lt_of_le_of_lt h.1.2 (by decide)⟩, plOk_b8 h.2.1, plOk_b8 h.2.2⟩
theorem log_good {es : List Ent} (h : LogG es) : arLog (logOct es) = true ∧ logOf ((logOct es).length / 26) (logOct es) = es := by
  have hok : ∀ e ∈ es, EntOk e := fun e he => entG_ok (h.2.2 e he)
  have hl := logOct_length es
  have hp : 0 < es.length := List.length_pos_iff.mpr h.1
  have e1 : (logOct es).length / 26 = es.length := by omega
  have e2 : logOf ((logOct es).length / 26) (logOct es) = es := by rw [e1]; exact logOf_logOct hok
  refine ⟨?_, e2⟩
  unfold arLog
  rw [e2, decide_eq_true (show (logOct es).length ≠ 0 by omega), decide_eq_true (show (logOct es).length % 26 = 0 by omega), decide_eq_true rfl]
  simp only [Bool.true_and, List.all_eq_true, Bool.and_eq_true]
  exact fun e he => (h.2.2 e he).2
theorem goodL_of {r : List Int} {es : List Ent} (hr : RefOk r) (h : LogG es) : goodL r (logOct es) = true := by
  unfold goodL
  rw [decide_eq_true hr, (log_good h).1]
  rfl
theorem base_it : ∀ k ∈ ([.oth [66] (be 8 3), .oth [79, 1, 2] [4, 5], .oth [83] []] : List Kd), ItOk k.item := by
  intro k hk
  rcases List.mem_cons.mp hk with rfl | hk
  · decide +kernel
  rcases List.mem_cons.mp hk with rfl | hk
  · decide +kernel
  rcases List.mem_cons.mp hk with rfl | hk
  · decide +kernel
  · cases hk
section
variable {K : PySem.W.Frag} {a : Addr} {ns : List Int} {s : Stt} {H : Hp}
theorem LI.good (I : LI K a ns s H) : ∀ k ∈ kindsOf s.m, k.Good ∧ ItOk k.item := by
  intro k hk
  have hc := I.c0
  have hc1 := I.c1
  have M := I.M
  unfold kindsOf at hk
  rcases List.mem_append.mp hk with h | h
  · rcases List.mem_append.mp h with h | h
    · rcases List.mem_cons.mp h with rfl | h
      · exact ⟨num_be (by show 0 ≤ s.c; omega) (Int.lt_of_le_of_lt (show s.c ≤ 42 from hc1) (by decide)), (by intro z; cases z), (by intro x hx; rw [List.mem_singleton.mp hx]; decide), be_octs _ _, (by show 1 ≤ 60; decide), by show (be 8 s.c).length ≤ _; rw [be_length]; decide⟩
      · refine ⟨?_, base_it k h⟩
        rcases List.mem_cons.mp h with rfl | h
        · exact ⟨66, [], rfl, by decide, by decide⟩
        rcases List.mem_cons.mp h with rfl | h
        · exact ⟨79, [1, 2], rfl, by decide, by decide⟩
        rcases List.mem_cons.mp h with rfl | h
        · exact ⟨83, [], rfl, by decide, by decide⟩
        · cases h
    · obtain ⟨e, he, rfl⟩ := List.mem_map.mp h
      have hr := M.rf e.1 (List.mem_map.mpr ⟨e, he, rfl⟩)
      refine ⟨R0_pairs e.1 (I.kp.subset (List.mem_map.mpr ⟨e, he, rfl⟩)) e.2 (I.gp e he), (by intro z; cases z), (fun x hx => ?_), be_octs _ _, ?_, by show (be 8 e.2).length ≤ _; rw [be_length]; decide⟩
      · rcases List.mem_cons.mp hx with rfl | hx
        · decide
        · exact hr.1 x hx
      · show e.1.length + 1 ≤ 60
        have := hr.2.2
        omega
  · obtain ⟨e, he, rfl⟩ := List.mem_map.mp h
    have hr := M.rl e.1 (List.mem_map.mpr ⟨e, he, rfl⟩)
    have hg := I.gl e he
    refine ⟨⟨(fun z => by have := hr.2.1; rw [z] at this; exact absurd this (by decide)), goodL_of hr hg, (log_good hg).2⟩, (by intro z; cases z), (fun x hx => ?_), logOct_octs _, ?_, by show (logOct e.2).length ≤ _; rw [logOct_length]; have := hg.2.1; omega⟩
    · rcases List.mem_cons.mp hx with rfl | hx
      · decide
      · exact hr.1 x hx
    · show e.1.length + 1 ≤ 60
      have := hr.2.2
      omega
theorem LI.shw (I : LI K a ns s H) : Shw (dueD s.m) 2000 20 := shw_due I.M (fun e he => V3_pl e.2 (I.gp e he)) I.gl (by have := I.c0; show 0 ≤ s.c; omega) I.c1
end
/-! ### items in a list -/
def KAt (H : Hp) (zs : List (Addr × Kd)) : Prop := ∀ z ∈ zs, ∃ q1 q2, H z.1 = some (.tup [.ref q1, .ref q2]) ∧ H q1 = some (.tup (z.2.item.1.map V.int)) ∧ H q2 = some (.tup (z.2.item.2.map V.int))
theorem KAt.tupK {H H' : Hp} {zs : List (Addr × Kd)} (h : KAt H zs) (k : TupK H H') : KAt H' zs := fun z hz => by
  obtain ⟨q1, q2, h1, h2, h3⟩ := h z hz
  exact ⟨q1, q2, k _ _ h1, k _ _ h2, k _ _ h3⟩
theorem KAt.app {H : Hp} {zs zs' : List (Addr × Kd)} (h : KAt H zs) (h' : KAt H zs') : KAt H (zs ++ zs') := fun z hz => (List.mem_append.mp hz).elim (h z) (h' z)
theorem KAt.items {H : Hp} {zs : List (Addr × Kd)} (h : KAt H zs) : ItemsAt H (zs.map fun z => (z.1, z.2.item)) ((zs.map (·.2)).map Kd.item) := ⟨by rw [List.map_map, List.map_map]; rfl, fun z hz => by
  obtain ⟨y, hy, rfl⟩ := List.mem_map.mp hz
  exact h y hy⟩
def kdD (k : Kd) : PyData := .tuple [rowD k.item.1, rowD k.item.2]
theorem kd_alike (k k' : Kd) : PySem.W.alike (kdD k) (kdD k') = true := by
  unfold kdD
  show PySem.W.alikeAll _ _ = true
  rw [PySem.W.alikeAll, PySem.W.alikeAll, PySem.W.alikeAll]
  rw [show PySem.W.alike (rowD k.item.1) (rowD k'.item.1) = true from alike_rows _ _, show PySem.W.alike (rowD k.item.2) (rowD k'.item.2) = true from alike_rows _ _]
  rfl
theorem kd_depth (k : Kd) : (kdD k).depth ≤ 60 := by
  have h1 : (rowD k.item.1).depth ≤ 1 := depth_row _
  have h2 : (rowD k.item.2).depth ≤ 1 := depth_row _
  unfold kdD
  rw [PyData.depth, PyData.depthAll, PyData.depthAll, PyData.depthAll]
  omega
theorem kd_dp {K : PySem.W.Frag} {H : Hp} {z : Addr × Kd} (h : ∃ q1 q2, H z.1 = some (.tup [.ref q1, .ref q2]) ∧ H q1 = some (.tup (z.2.item.1.map V.int)) ∧ H q2 = some (.tup (z.2.item.2.map V.int))) : Dp K H (.ref z.1) (kdD z.2) := by
  obtain ⟨q1, q2, h1, h2, h3⟩ := h
  exact .tup (SqT.of h1) (.cons (dp_row h2) (.cons (dp_row h3) .nil))
theorem Same.frz2 {H : Hp} {d : Addr} {o : Obj} {kvs : List (List Key × V)} (h : H d = some (.dT kvs)) : KeepN H (upd H d (.frz o (.dT kvs))) := KeepN.up h
end K49
namespace K49
open PySem L2
theorem valV_mem {κ : Type} [DecidableEq κ] : ∀ (lv : List (κ × V)) (k : κ) (v : V), (lv.map (·.1)).Nodup → (k, v) ∈ lv → valV lv k = some v
  | [], k, v, _, h => by cases h
  | p :: lv, k, v, nd, h => by
    have nd' : p.1 ∉ lv.map (·.1) ∧ (lv.map (·.1)).Nodup := List.nodup_cons.mp nd
    rcases List.mem_cons.mp h with rfl | h2
    · exact valV_pos rfl
    · have : ¬ p.1 = k := fun e => nd'.1 (List.mem_map.mpr ⟨(k, v), h2, e.symm⟩)
      rw [valV_neg this]
      exact valV_mem lv k v nd'.2 h2
theorem set_thrice {α : Type} (σ : List α) (i : Nat) (a b : α) : ((σ.set i a).set i b).set i a = σ.set i a := by
  rw [List.set_set, List.set_set]
/-- [.. for ref in d], d a dict by rows, locked -/
theorem lock_lc {σ : St} {H : Hp} {d : Addr} {i : Nat} {α : Type} {r : RV α} {l : List (List Int × α)} {te : TE} {Q : VK} (hl : l.length ≤ 100) (nd : (keysR l).Nodup) (h : RD r.R H d l) (hi : σ[i]? = some (some (.ref d))) (mk : List Int × α → Kd)
    (hte : ∀ (od : Obj) (kvs : List (List Key × V)) (q : Addr) (e : List Int × α) (v : V) H2, H d = some (.dT kvs) → Same (upd H d (.frz od (.dT kvs))) H2 → H2 q = some (.tup (e.1.map V.int)) → e ∈ l → DGet H2 d (.ref q) (some v) → r.R H2 v e.2 →
      ∀ N : VK, (∀ (T : Addr) H3, Same H2 H3 → (∃ q1 q2, H3 T = some (.tup [.ref q1, .ref q2]) ∧ H3 q1 = some (.tup ((mk e).item.1.map V.int)) ∧ H3 q2 = some (.tup ((mk e).item.2.map V.int))) → N (.ref T) H3) → te ((wipe σ [6]).set 6 (some (.ref q))) H2 N)
    (q : ∀ (L : Addr) (zs : List (Addr × Kd)) H', Same H H' → H' L = some (.lst (refs zs)) → zs.map (·.2) = l.map mk → KAt H' zs → Q (.ref L) H') : tLockE (tLc (iKeys (tVar i)) (gName 6) tYes te [6]) σ H Q := by
  obtain ⟨lv, h1, p⟩ := h
  have hk := paired_keys p
  have lk : lv.length = l.length := Paired.length p
  refine ⟨d, _, h1, trivial, fun od => ⟨_, hi, d, od, rfl, .inr ⟨_, upd_same, fun D nD => ?_⟩⟩⟩
  refine lc_it (walk_keysT (d := d) (o := od) (kvs := rowsKV lv)) (fun j H' => Same (upd H d (.frz od (.dT (rowsKV lv)))) H' ∧ ∃ zs : List (Addr × Kd), H' D = some (.lst (refs zs)) ∧ zs.map (·.2) = (l.take j).map mk ∧ KAt H' zs) ⟨Same.new nD, [], upd_same, rfl, (fun z hz => by cases hz)⟩ (fun j H' _ p => p.1 _ _ upd_same) ?_ ?_
  · rintro j x H2 H3 hj ⟨s2, zs, hD, hz, hkt⟩ ⟨rfl, k, v, qq, e1, rfl, hq⟩
    rw [List.length_map] at hj
    have hj' : j < l.length := by omega
    have hlv : (rowsKV lv)[j]? = some (row (lv[j]).1, (lv[j]).2) := by rw [List.getElem?_map, List.getElem?_eq_getElem hj]; rfl
    rw [hlv] at e1
    cases e1
    have hf := paired_at p (List.getElem?_eq_getElem hj) (List.getElem?_eq_getElem hj')
    rw [row_kV] at hq
    have hmem : lv[j] ∈ lv := List.getElem_mem hj
    refine ⟨set_thrice σ 6 none _, ?_⟩
    have zl : zs.length ≤ j := by
      have := congrArg List.length hz
      rw [List.length_map, List.length_map, List.length_take] at this
      omega
    refine hte od (rowsKV lv) qq l[j] (lv[j]).2 H3 h1 s2 (by rw [← hf.1]; exact hq) (List.getElem_mem hj') (.inr ⟨rowsKV lv, row (lv[j]).1, qq, .inr ⟨od, s2 _ _ upd_same⟩, rfl, by rw [row_kV]; exact hq, ?_⟩) (r.keep ((KeepN.up h1).trans (.of s2)) hf.2) _ fun T H4 s4 hT => ?_
    · rw [val_rows]
      exact (valV_mem lv (lv[j]).1 (lv[j]).2 (by rw [hk]; exact nd) hmem).symm
    · have hD4 := s4 _ _ hD
      refine ⟨_, hD4, big (by rw [List.length_map]; omega), (s2.trans s4).put nD, zs ++ [(T, mk l[j])], ?_, ?_, ?_⟩
      · rw [upd_same]
        show some (HO.lst (refs zs ++ [V.ref T])) = some (HO.lst (refs (zs ++ [(T, mk l[j])])))
        rw [show refs (zs ++ [(T, mk l[j])]) = refs zs ++ [V.ref T] from List.map_append]
      · rw [List.map_append, hz, List.take_succ, List.getElem?_eq_getElem hj', List.map_append]
        rfl
      · refine KAt.tupK (KAt.app (hkt.tupK (.of s4)) fun z hz => ?_) (TupK.up hD4)
        rw [List.mem_singleton.mp hz]
        exact hT
  · rintro H2 ⟨s2, zs, hD, hz, hkt⟩
    have hd2 := s2 _ _ upd_same
    rw [List.length_map, lk, List.take_length] at hz
    refine ⟨hd2, q D zs _ (Same.frz s2 h1) (by rw [upd_ne (ne_of hD hd2 (by intro z; cases z))]; exact hD) hz (hkt.tupK fun c xs hc => by rw [upd_ne (ne_of hc hd2 (by intro z; cases z))]; exact hc)⟩
theorem op_catAK {X : Cx} {K : PySem.W.Frag} (h : X.K = K) : OpR X (binaryOp .Add) (rCatA K) := by subst h; exact op_catA
end K49
namespace K49
open PySem L2
theorem _root_.L2.DGet.same {H H' : Hp} {d : Addr} {y : V} {r : Option V} (h : DGet H d y r) (s : Same H H') : DGet H' d y r := by
  rcases h with ⟨kvs, k, h1, h2, h3⟩ | ⟨kvs, k, b, h1, h2, h3, h4⟩
  · exact .inl ⟨kvs, k, s.rd h1, h2, h3⟩
  · exact .inr ⟨kvs, k, b, s.rd h1, h2, s _ _ h3, h4⟩
theorem sz0 : 0 ≤ sizeLine := Nat.zero_le _
section
variable {P : Program} {w : World} {K : PySem.W.Frag} {mg : Str → Option Value} {base : Heap} {f : Addr} {cdv : Value} {A : Around} {outer : List Env} {s0 : Shared} {H0 : Hp} {E : XK}
theorem c_sortedDat {X : Cx} {e : Expr} {te : TE} {p pos : Pos} (hu : X.A.units + 64 < cLine) (B : Blt X.mg) (he : PE X e te) (hg : Gl X "sorted" := by rfl) (h1 : starEach (e :: []) X.env = (false, eval e X.env) :: starEach [] X.env := by rfl) (h2 : (backTo pos (starEach [] X.env)).any (·.1) = false := by rfl) :
    PE X (.Call (.Name "sorted" p) [e] [] pos) (tCB (rSortedDat X.K) (tCons te tNil)) := pe_callB (cr_sortedDat hu) hg B.sorted (by decide +kernel) (pa_cons he pa_nil h1) (by decide) (by decide) h1 h2
theorem law_items (T : Top P K mg) (hG : (XL P w K mg base f cdv A outer s0 H0 E).A.guards = some []) (hr : Room 10 (XL P w K mg base f cdv A outer s0 H0 E).A) {tr : TS} (htr : PSs (XL P w K mg base f cdv A outer s0 H0 E) (bK.drop 9) tr) :
    ∃ t, PSs (XL P w K mg base f cdv A outer s0 H0 E) (bK.drop 6) t ∧ ∀ (D : Ends) (a : Addr) (ns : List Int) (s : Stt) (x1 x6 x7 x8 x9 x10 x11 x12 x13 : Option V) (H : Hp), LI K a ns s H →
      (∀ (x8' : Option V) H', LI K a ns s H' → tr D (SL a s x1 x6 x7 x8' x9 x10 x11 x12 x13) H') →
      t D (SL a s x1 x6 x7 x8 x9 x10 x11 x12 x13) H := by
  have B := T.B
  have hu := hu_of hr
  have ONm : Ok P w K mg base CX0 1 "_law_name" ["name"] spNm := T.oNm
  have OKO : Ok P w K mg base CX0 2 "_law_octets" ["log"] spKO := T.oKo
  have OKD : Ok P w K mg base CX0 2 "_law_due" ["pairs", "logs", "count"] (spKD K) := T.oKd
  have OKH : Ok P w K mg base CX0 10 "_law_heard" ["items"] (spKH K) := T.oKh
  refine ⟨_, pss_cons (ps_set (i := 8) scL.nd rfl (.inl rfl) (pe_lst (pa_cons (pe_tup (pa_cons (pe_tup (pa_cons pe_int pa_nil)) (pa_cons (c_fn ONm hr (pa_cons (pv 3) pa_nil)) pa_nil))) (pa_cons (pe_tup (pa_cons (pe_tup (pa_cons pe_int pa_nil)) (pa_cons (c_fn ONm hr (pa_cons pe_int pa_nil)) pa_nil)))
        (pa_cons (pe_tup (pa_cons (pe_tup (pa_cons pe_int (pa_cons pe_int (pa_cons pe_int pa_nil)))) (pa_cons (pe_tup (pa_cons pe_int (pa_cons pe_int pa_nil))) pa_nil))) (pa_cons (pe_tup (pa_cons (pe_tup (pa_cons pe_int pa_nil)) (pa_cons (pe_tup pa_nil) pa_nil))) pa_nil))))))
    (pss_cons (ps_set (i := 8) scL.nd rfl (.inl rfl) (pe_op op_cat (pe_op op_cat (pv 8)
        (pe_lock (pe_lc (own := [("ref", 6)]) (g := gName 6) (by rfl) scL.nd (pi_keys (pv 4)) (blkOk_by (own := [("ref", 6)]) (N := nL) (sc := defScope sLaw) (by decide +kernel)) (fun _ _ _ _ _ => pg_name (i := 6) scL.nd rfl (Or.inl rfl)) (fun _ _ _ _ _ => pts_nil)
          (fun _ _ _ _ _ => pe_tup (pa_cons (pe_op (op_catAK (K := K) rfl) (pe_tup (pa_cons pe_int pa_nil)) (pv 6)) (pa_cons (c_fn ONm hr (pa_cons (pe_dget hu (pv 4) (pv 6) (fun _ _ => rfl)) pa_nil)) pa_nil))))))
        (pe_lock (pe_lc (own := [("ref", 6)]) (g := gName 6) (by rfl) scL.nd (pi_keys (pv 5)) (blkOk_by (own := [("ref", 6)]) (N := nL) (sc := defScope sLaw) (by decide +kernel)) (fun _ _ _ _ _ => pg_name (i := 6) scL.nd rfl (Or.inl rfl)) (fun _ _ _ _ _ => pts_nil)
          (fun _ _ _ _ _ => pe_tup (pa_cons (pe_op (op_catAK (K := K) rfl) (pe_tup (pa_cons pe_int pa_nil)) (pv 6)) (pa_cons (c_fn OKO hr (pa_cons (pe_dget hu (pv 5) (pv 6) (fun _ _ => rfl)) pa_nil)) pa_nil)))))))
    (pss_cons (ps_if (pt_cmpR op_ne (c_repr hG hr B (c_fn OKH hr (pa_cons (c_tuple B (c_sortedDat hr.units B (pv 8))) pa_nil))) (c_repr hG hr B (c_fn OKD hr (pa_cons (pv 4) (pa_cons (pv 5) (pa_cons (pv 3) pa_nil))))) (nomark _)) (pss_one (ps_ret pe_bl)) pss_nil) htr)), ?_⟩
  intro D a ns s x1 x6 x7 x8 x9 x10 x11 x12 x13 H I k
  refine ⟨sz1, fun a1 n1 => ?_⟩
  have s1 : Same H (upd H a1 (.tup [.int 76])) := Same.new n1
  have e1 : (upd H a1 (.tup [.int 76])) a1 = some (.tup (([76] : List Int).map V.int)) := upd_same
  generalize upd H a1 (.tup [.int 76]) = H1 at s1 e1 ⊢
  refine ⟨_, rfl, s.c, rfl, fun a2 H2 s2 e2 => ?_⟩
  refine ⟨sz2, fun a3 n3 => ?_⟩
  have s3 : Same H2 (upd H2 a3 (.tup [.ref a1, .ref a2])) := Same.new n3
  have e3 : (upd H2 a3 (.tup [.ref a1, .ref a2])) a3 = some (.tup [.ref a1, .ref a2]) := upd_same
  generalize upd H2 a3 (.tup [.ref a1, .ref a2]) = H3 at s3 e3 ⊢
  refine ⟨sz1, fun b1 n4 => ?_⟩
  have s4 : Same H3 (upd H3 b1 (.tup [.int 66])) := Same.new n4
  have e4 : (upd H3 b1 (.tup [.int 66])) b1 = some (.tup (([66] : List Int).map V.int)) := upd_same
  generalize upd H3 b1 (.tup [.int 66]) = H4 at s4 e4 ⊢
  refine ⟨3, rfl, fun b2 H5 s5 e5 => ?_⟩
  refine ⟨sz2, fun b3 n6 => ?_⟩
  have s6 : Same H5 (upd H5 b3 (.tup [.ref b1, .ref b2])) := Same.new n6
  have e6 : (upd H5 b3 (.tup [.ref b1, .ref b2])) b3 = some (.tup [.ref b1, .ref b2]) := upd_same
  generalize upd H5 b3 (.tup [.ref b1, .ref b2]) = H6 at s6 e6 ⊢
  refine ⟨sz3, fun c1 n7 => ?_⟩
  have s7 : Same H6 (upd H6 c1 (.tup [.int 79, .int 1, .int 2])) := Same.new n7
  have e7 : (upd H6 c1 (.tup [.int 79, .int 1, .int 2])) c1 = some (.tup (([79, 1, 2] : List Int).map V.int)) := upd_same
  generalize upd H6 c1 (.tup [.int 79, .int 1, .int 2]) = H7 at s7 e7 ⊢
  refine ⟨sz2, fun c2 n8 => ?_⟩
  have s8 : Same H7 (upd H7 c2 (.tup [.int 4, .int 5])) := Same.new n8
  have e8 : (upd H7 c2 (.tup [.int 4, .int 5])) c2 = some (.tup (([4, 5] : List Int).map V.int)) := upd_same
  generalize upd H7 c2 (.tup [.int 4, .int 5]) = H8 at s8 e8 ⊢
  refine ⟨sz2, fun c3 n9 => ?_⟩
  have s9 : Same H8 (upd H8 c3 (.tup [.ref c1, .ref c2])) := Same.new n9
  have e9 : (upd H8 c3 (.tup [.ref c1, .ref c2])) c3 = some (.tup [.ref c1, .ref c2]) := upd_same
  generalize upd H8 c3 (.tup [.ref c1, .ref c2]) = H9 at s9 e9 ⊢
  refine ⟨sz1, fun g1 n10 => ?_⟩
  have s10 : Same H9 (upd H9 g1 (.tup [.int 83])) := Same.new n10
  have e10 : (upd H9 g1 (.tup [.int 83])) g1 = some (.tup (([83] : List Int).map V.int)) := upd_same
  generalize upd H9 g1 (.tup [.int 83]) = H10 at s10 e10 ⊢
  refine ⟨sz0, fun g2 n11 => ?_⟩
  have s11 : Same H10 (upd H10 g2 (.tup [])) := Same.new n11
  have e11 : (upd H10 g2 (.tup [])) g2 = some (.tup (([] : List Int).map V.int)) := upd_same
  generalize upd H10 g2 (.tup []) = H11 at s11 e11 ⊢
  refine ⟨sz2, fun g3 n12 => ?_⟩
  have s12 : Same H11 (upd H11 g3 (.tup [.ref g1, .ref g2])) := Same.new n12
  have e12 : (upd H11 g3 (.tup [.ref g1, .ref g2])) g3 = some (.tup [.ref g1, .ref g2]) := upd_same
  generalize upd H11 g3 (.tup [.ref g1, .ref g2]) = H12 at s12 e12 ⊢
  have t11 : Same H11 H12 := s12
  have t10 : Same H10 H12 := s11.trans t11
  have t9 : Same H9 H12 := s10.trans t10
  have t8 : Same H8 H12 := s9.trans t9
  have t7 : Same H7 H12 := s8.trans t8
  have t6 : Same H6 H12 := s7.trans t7
  have t5 : Same H5 H12 := s6.trans t6
  have t4 : Same H4 H12 := s5.trans t5
  have t3 : Same H3 H12 := s4.trans t4
  have t2 : Same H2 H12 := s3.trans t3
  have t1 : Same H1 H12 := s2.trans t2
  have t0 : Same H H12 := s1.trans t1
  have k12 : KAt H12 [(a3, .cnt s.c), (b3, .oth [66] (be 8 3)), (c3, .oth [79, 1, 2] [4, 5]), (g3, .oth [83] [])] := fun z hz => by
    rcases List.mem_cons.mp hz with rfl | hz
    · exact ⟨a1, a2, t3 _ _ e3, t1 _ _ e1, t2 _ _ e2⟩
    rcases List.mem_cons.mp hz with rfl | hz
    · exact ⟨b1, b2, t6 _ _ e6, t4 _ _ e4, t5 _ _ e5⟩
    rcases List.mem_cons.mp hz with rfl | hz
    · exact ⟨c1, c2, t9 _ _ e9, t7 _ _ e7, t8 _ _ e8⟩
    rcases List.mem_cons.mp hz with rfl | hz
    · exact ⟨g1, g2, e12, t10 _ _ e10, t11 _ _ e11⟩
    · cases hz
  have I12 := I.keep t0
  clear s1 s2 s3 s4 s5 s6 s7 s8 s9 s10 s11 s12 e1 e2 e3 e4 e5 e6 e7 e8 e9 e10 e11 e12 n1 n3 n4 n6 n7 n8 n9 n10 n11 n12 t1 t2 t3 t4 t5 t6 t7 t8 t9 t10 t11
  generalize hz0 : ([(a3, .cnt s.c), (b3, .oth [66] (be 8 3)), (c3, .oth [79, 1, 2] [4, 5]), (g3, .oth [83] [])] : List (Addr × Kd)) = zs0 at k12
  have hz0' : zs0.map (·.2) = [.cnt s.c, .oth [66] (be 8 3), .oth [79, 1, 2] [4, 5], .oth [83] []] := by rw [← hz0]; rfl
  have hl0 : zs0.length = 4 := by rw [← hz0]; rfl
  refine ⟨sz4, fun L nL => ?_⟩
  have s13 : Same H12 (upd H12 L (.lst [.ref a3, .ref b3, .ref c3, .ref g3])) := Same.new nL
  have hL : (upd H12 L (.lst [.ref a3, .ref b3, .ref c3, .ref g3])) L = some (.lst (refs zs0)) := by rw [upd_same, ← hz0]; rfl
  generalize upd H12 L (.lst [.ref a3, .ref b3, .ref c3, .ref g3]) = H13 at s13 hL ⊢
  have I13 := I12.keep s13
  have k13 := k12.tupK (.of s13)
  clear I12 k12 s13 hz0
  have M := I.M
  -- the refs
  refine ⟨_, rfl, ?_⟩
  refine lock_lc (r := rInt) (l := s.ps) (by have := M.lf; show s.ps.length ≤ 100; have : s.ps.length ≤ 5 := this; omega) M.nf I13.r1 rfl (fun e => Kd.pair e.1 e.2) (fun od kvs q e v H2 hkv s2 hq he dg hv N hN => ?_) fun L1 zs1 H14 s14 hL1 hz1 hk1 => ?_
  · have hr := M.rf e.1 (List.mem_map.mpr ⟨e, he, rfl⟩)
    cases (show v = .int e.2 from hv)
    refine ⟨sz1, fun t nt => ⟨_, rfl, catA_of (xs := [.int 82]) upd_same (Same.at nt hq) (by rw [List.length_map]; have := hr.2.2; show 1 + _ ≤ _; omega) fun q1 H3 s3 h3 => ?_⟩⟩
    refine ⟨_, rfl, _, rfl, s.d1, _, rfl, dg.same ((Same.new nt).trans s3), e.2, rfl, fun q2 H4 s4 h4 => ⟨sz2, fun T nT => hN T _ ((((Same.new nt).trans s3).trans s4).up nT) ⟨q1, q2, upd_same, Same.at nT (s4 _ _ h3), Same.at nT h4⟩⟩⟩
  have lz1 : zs1.length ≤ 5 := by
    have := congrArg List.length hz1
    rw [List.length_map, List.length_map] at this
    rw [this]
    exact M.lf
  refine ⟨L, L1, _, _, rfl, rfl, s14 _ _ hL, hL1, Nat.le_of_lt (big (by rw [List.length_map, List.length_map]; omega)), fun L2 nL2 => ?_⟩
  have s15 : Same H14 (upd H14 L2 (.lst (refs zs0 ++ refs zs1))) := Same.new nL2
  have hL2 : (upd H14 L2 (.lst (refs zs0 ++ refs zs1))) L2 = some (.lst (refs (zs0 ++ zs1))) := by rw [upd_same, ← refs_app]
  generalize upd H14 L2 (.lst (refs zs0 ++ refs zs1)) = H15 at s15 hL2 ⊢
  have I15 := I13.keep (s14.trans s15)
  have k15 : KAt H15 (zs0 ++ zs1) := KAt.app (k13.tupK (.of (s14.trans s15))) (hk1.tupK (.of s15))
  -- the logs
  refine lock_lc (r := rLog s.b) (l := s.ls) (by have := M.ll; show s.ls.length ≤ 100; have : s.ls.length ≤ 5 := this; omega) M.nl I15.r2 rfl (fun e => Kd.log e.1 e.2) (fun od kvs q e v H2 hkv s2 hq he dg hv N hN => ?_) fun L3 zs2 H16 s16 hL3 hz2 hk2 => ?_
  · have hr := M.rl e.1 (List.mem_map.mpr ⟨e, he, rfl⟩)
    obtain ⟨la, lz, rfl, nb, hla, hE⟩ := hv
    refine ⟨sz1, fun t nt => ⟨_, rfl, catA_of (xs := [.int 76]) upd_same (Same.at nt hq) (by rw [List.length_map]; have := hr.2.2; show 1 + _ ≤ _; omega) fun q1 H3 s3 h3 => ?_⟩⟩
    have s23 := (Same.new nt (o := .tup [.int 76])).trans s3
    refine ⟨_, rfl, _, rfl, s.d2, _, rfl, dg.same s23, la, e.2, rfl, ⟨lz, s23 _ _ hla, hE.keep s23⟩, (I.gl e he).2.1, fun q2 H4 s4 h4 => ⟨sz2, fun T nT => hN T _ ((s23.trans s4).up nT) ⟨q1, q2, upd_same, Same.at nT (s4 _ _ h3), Same.at nT h4⟩⟩⟩
  have lz2 : zs2.length ≤ 5 := by
    have := congrArg List.length hz2
    rw [List.length_map, List.length_map] at this
    rw [this]
    exact M.ll
  refine ⟨L2, L3, _, _, rfl, rfl, s16 _ _ hL2, hL3, Nat.le_of_lt (big (by rw [List.length_map, List.length_map, List.length_append]; omega)), fun L4 nL4 => ?_⟩
  have s17 : Same H16 (upd H16 L4 (.lst (refs (zs0 ++ zs1) ++ refs zs2))) := Same.new nL4
  have hL4 : (upd H16 L4 (.lst (refs (zs0 ++ zs1) ++ refs zs2))) L4 = some (.lst (refs (zs0 ++ zs1 ++ zs2))) := by rw [upd_same, ← refs_app (zs0 ++ zs1) zs2]
  generalize upd H16 L4 (.lst (refs (zs0 ++ zs1) ++ refs zs2)) = H17 at s17 hL4 ⊢
  have I17 := I15.keep (s16.trans s17)
  have k17 : KAt H17 (zs0 ++ zs1 ++ zs2) := KAt.app (k15.tupK (.of (s16.trans s17))) (hk2.tupK (.of s17))
  have hkinds : (zs0 ++ zs1 ++ zs2).map (·.2) = kindsOf s.m := by
    rw [List.map_append, List.map_append, hz0', hz1, hz2]
    rfl
  have hlen : (zs0 ++ zs1 ++ zs2).length ≤ 14 := by rw [List.length_append, List.length_append]; omega
  generalize zs0 ++ zs1 ++ zs2 = zs at hL4 k17 hkinds hlen
  clear hL3 hk2 hL2 k15 I15 hL1 hk1 hL k13 I13 hz0' hz1 hz2 s14 s15 s16 s17
  -- sorted, heard
  let ff : Addr × Kd → V × PyData := fun z => (V.ref z.1, kdD z.2)
  refine ⟨_, rfl, L4, zs.map ff, rfl, SqL.of (by rw [hL4, List.map_map]; rfl), (fun p hp => by
    obtain ⟨z, hz, rfl⟩ := List.mem_map.mp hp
    exact kd_dp (k17 z hz)), (fun d hd d' hd' => by
    obtain ⟨p, hp, rfl⟩ := List.mem_map.mp hd
    obtain ⟨z, _, rfl⟩ := List.mem_map.mp hp
    obtain ⟨p', hp', rfl⟩ := List.mem_map.mp hd'
    obtain ⟨z', _, rfl⟩ := List.mem_map.mp hp'
    exact kd_alike z.2 z'.2), .inl (fun d hd => by
    obtain ⟨p, hp, rfl⟩ := List.mem_map.mp hd
    obtain ⟨z, _, rfl⟩ := List.mem_map.mp hp
    exact ⟨_, _, rfl⟩), (fun p hp => by
    obtain ⟨z, _, rfl⟩ := List.mem_map.mp hp
    exact kd_depth z.2), fun p np => ?_⟩
  obtain ⟨zs', hperm, hzs'⟩ : ∃ zs' : List (Addr × Kd), zs'.Perm zs ∧ ((zs.map ff).mergeSort (PySem.W.dataLe false (·.2))).map (·.1) = refs zs' := by
    refine ⟨zs.mergeSort (fun a b => PySem.W.dataLe false (fun x : V × PyData => x.2) (ff a) (ff b)), List.mergeSort_perm _ _, ?_⟩
    rw [← PySem.W.sort_maps (r := fun a b => PySem.W.dataLe false (fun x : V × PyData => x.2) (ff a) (ff b)) ff fun a _ b _ => rfl, List.map_map]
    rfl
  rw [hzs']
  refine ⟨p, _, rfl, .inl ⟨SqL.of upd_same, fun t nt => ?_⟩⟩
  have s19 := (Same.new np (o := .lst (refs zs'))).up nt (o := .tup (refs zs'))
  have ht : (upd (upd H17 p (.lst (refs zs'))) t (.tup (refs zs'))) t = some (.tup (refs zs')) := upd_same
  generalize upd (upd H17 p (.lst (refs zs'))) t (.tup (refs zs')) = H19 at s19 ht ⊢
  have k19 : KAt H19 zs' := fun z hz => (k17.tupK (.of s19)) z (hperm.mem_iff.mp hz)
  have hp2 : (zs'.map (·.2)).Perm (kindsOf s.m) := by rw [← hkinds]; exact hperm.map _
  refine ⟨t, zs'.map fun z => (z.1, z.2.item), (zs'.map (·.2)).map Kd.item, rfl, by rw [ht]; show _ = some (HO.tup (List.map _ (List.map _ zs'))); rw [List.map_map]; rfl, k19.items, by rw [List.length_map, List.length_map, hperm.length_eq]; omega, (fun it hit => by
    obtain ⟨kd, hkd, rfl⟩ := List.mem_map.mp hit
    exact (I.good kd (hp2.mem_iff.mp hkd)).2), fun p4 H20 s20 hd20 => ?_⟩
  rw [heard_due (s := s.m) M hp2 fun kd hkd => (I.good kd hkd).1] at hd20
  obtain ⟨a1, a2, a3, a4⟩ := I.shw.asks (Nat.le_refl _) (by decide)
  refine ⟨_, dueD s.m, rfl, hd20, a1, a2, a3, a4, ?_⟩
  have I20 := I17.keep (s19.trans s20)
  refine ⟨_, rfl, _, rfl, _, rfl, s.d1, s.d2, s.m, rfl, M, (fun e he => (I.gl e he).2.1), I20.r1, I20.r2.mono (fun _ h => h) (fun v x ⟨l, lz, e, _, h, E⟩ => ⟨l, lz, e, h, E⟩), fun p5 H21 s21 hd21 => ?_⟩
  refine ⟨_, dueD s.m, rfl, hd21, a1, a2, a3, a4, rfl, _, rfl, ?_⟩
  rw [decide_eq_true rfl]
  exact iteF (k _ _ (I20.keep s21))
end
end K49
namespace K49
open PySem L2
/-! ### odd items -/
theorem tup_n {H : Hp} {Q : VK} (ns : List Int) (hz : ns.length ≤ 4000) (k : ∀ (q : Addr) H', Same H H' → H' q = some (.tup (ns.map V.int)) → Q (.ref q) H') : (ns.map V.int).length ≤ sizeLine ∧ ∀ p, H p = none → Q (.ref p) (upd H p (.tup (ns.map V.int))) :=
  ⟨by rw [List.length_map]; exact Nat.le_of_lt (big hz), fun p np => k p _ (Same.new np) upd_same⟩
theorem tup_v {H : Hp} {Q : VK} (vs : List V) (hz : vs.length ≤ sizeLine) (k : ∀ (q : Addr) H', Same H H' → H' q = some (.tup vs) → Q (.ref q) H') : vs.length ≤ sizeLine ∧ ∀ p, H p = none → Q (.ref p) (upd H p (.tup vs)) := ⟨hz, fun p np => k p _ (Same.new np) upd_same⟩
theorem lst_v {H : Hp} {Q : VK} (vs : List V) (hz : vs.length ≤ sizeLine) (k : ∀ (q : Addr) H', H q = none → Same H H' → H' q = some (.lst vs) → Q (.ref q) H') : vs.length ≤ sizeLine ∧ ∀ p, H p = none → Q (.ref p) (upd H p (.lst vs)) := ⟨hz, fun p np => k p _ np (Same.new np) upd_same⟩
theorem rep_n {K : PySem.W.Frag} {H : Hp} {Q : VK} (x : Int) (n : Nat) (h2 : 2 ≤ n) (hn : n ≤ 1000) (k : ∀ (q : Addr) H', Same H H' → H' q = some (.tup ((List.replicate n x).map V.int)) → Q (.ref q) H') : [V.int x].length ≤ sizeLine ∧ ∀ p, H p = none → rRepT K (.ref p) (.int (n : Nat)) (upd H p (.tup [.int x])) Q := by
  refine ⟨sz1, fun u nu => ⟨u, n, _, rfl, rfl, SqT.of upd_same, (by intro z; cases z), by omega, by omega, (by show 1 ≤ 1000; decide), fun p np => k p _ ((Same.new nu).up np) ?_⟩⟩
  rw [upd_same, Int.toNat_natCast]
  have : ∀ m : Nat, (List.replicate m [V.int x]).flatten = (List.replicate m x).map V.int := fun m => by
    induction m with
    | zero => rfl
    | succ m ih => rw [List.replicate_succ, List.flatten_cons, ih, List.replicate_succ]; rfl
  rw [this]
def Odds : List Item := [(82 :: 64 :: 3 :: be 8 5, be 8 6), ([82, 9], be 8 (2 ^ 61 - 1)), ([82, 9], List.replicate 7 0), (82 :: List.replicate 21 9, be 8 1), ([82], be 8 1), ([76, 9], []), ([76, 9], List.replicate 25 0)]
theorem odds_bad : ∀ it ∈ Odds, (stepM m0 it).isNone = true ∧ ItOk it := by decide +kernel
def Bents : List (List Int) := [List.replicate 9 0 ++ [2] ++ be 8 5, [0, 1] ++ List.replicate 7 0 ++ ([1] ++ be 8 5), List.replicate 9 0 ++ [1] ++ List.replicate 8 255, [1] ++ be 8 (2 ^ 61 - 1) ++ ([1] ++ be 8 5)]
def isBrk (its : List Item) (k : List Int) : Bool := match runM m0 its with
  | .inl k' => decide (k' = k)
  | .inr _ => false
theorem brk_of {its : List Item} {k : List Int} (h : isBrk its k = true) : meaning its = .inl k := by
  unfold isBrk at h
  unfold meaning
  cases e : runM m0 its with
  | inl k' =>
    rw [e] at h
    simp only at h
    rw [of_decide_eq_true h]
  | inr s =>
    rw [e] at h
    cases h
theorem odd_brk {it : Item} (h : it ∈ Odds) : isBrk [it] it.1 = true ∧ ItOk it := by
  obtain ⟨h1, h2⟩ := odds_bad it h
  refine ⟨?_, h2⟩
  unfold isBrk
  rw [runM]
  cases e : stepM m0 it with
  | none => exact decide_eq_true rfl
  | some s => rw [e] at h1; cases h1
def longI : List Item := [(76 :: List.replicate 21 9, be 8 0 ++ List.replicate 9 0 ++ ([1] ++ be 8 5)), ([82, 9], [])]
theorem long_brk : isBrk longI (76 :: List.replicate 21 9) = true ∧ ∀ it ∈ longI, ItOk it := by decide +kernel
def twoI (lg : List Int) : List Item := [([82, 9], be 8 5), ([76, 9], be 8 0 ++ lg)]
theorem bent_brk : ∀ lg ∈ Bents, isBrk (twoI lg) [76, 9] = true ∧ ∀ it ∈ twoI lg, ItOk it := by decide +kernel
theorem cnt_brk : ∀ v ∈ ([[], List.replicate 7 0, List.replicate 9 0] : List (List Int)), isBrk [([76], v)] [76] = true ∧ ItOk ([76], v) := by decide +kernel
def brD (k : List Int) : PyData := .tuple [.str "broken", rowD k]
theorem heard_brk {its : List Item} {k : List Int} (h : isBrk its k = true) : heardD its = brD k := by
  unfold heardD
  rw [brk_of h]
  rfl
theorem lay_s2 : PyData.canLay0 (.str "broken") = true := by decide +kernel
theorem shaped_br (k : List Int) : SeqAt.shaped (brD k) = true := by
  have h : PyData.depthAll (k.map PyData.int) ≤ 1 := depth_ints k
  have c : PyData.canLayAll0 (k.map PyData.int) = true := canLay_ints k
  unfold brD rowD SeqAt.shaped
  rw [PyData.canLay0, PyData.canLayAll0, PyData.canLayAll0, PyData.canLayAll0, lay_s2, PyData.canLay0, c, PyData.depth, PyData.depthAll, PyData.depthAll, PyData.depthAll, PyData.depth, PyData.depth]
  simp
  omega
theorem eqv_br (k : List Int) : PyData.eqv (brD k) (brD k) = true := by
  unfold brD rowD
  rw [PyData.eqv, PyData.eqvAll, PyData.eqvAll, PyData.eqvAll, PyData.eqv, eqv_row, decide_eq_true rfl]
  simp
theorem Fr.tupK {b : Addr} {H H' : Hp} (f : Fr b H H') (hb : BoxAt H b) : TupK H H' := fun c xs h => f _ _ h (hb.neT h)
theorem ItemsAt.tupK {H H' : Hp} {zs : List (Addr × Item)} {its : List Item} (h : ItemsAt H zs its) (k : TupK H H') : ItemsAt H' zs its := ⟨h.eq, fun z hz => by
  obtain ⟨q1, q2, h1, h2, h3⟩ := h.at' z hz
  exact ⟨q1, q2, k _ _ h1, k _ _ h2, k _ _ h3⟩⟩
/-- heard(items) != ("broken", key): no -/
theorem heard_ne {K : PySem.W.Frag} {H : Hp} {p q u : Addr} {its : List Item} {key : List Int} {R : V → Hp → Prop} (hb : isBrk its key = true) (hp : Dp K H (.ref p) (heardD its)) (hq : H q = some (.tup (key.map V.int))) (hu : H u = some (.tup [.str "broken", .ref q])) (k : R (.bl false) H) : rNeD K (.ref p) (.ref u) H R := by
  rw [heard_brk hb] at hp
  refine ⟨brD key, brD key, hp, .tup (SqT.of hu) (.cons (.str _) (.cons (dp_row hq) .nil)), shaped_br _, shaped_br _, ?_⟩
  rw [eqv_br]
  exact k
end K49
namespace K49
open PySem L2
theorem sz6 : 6 ≤ sizeLine := by decide
theorem bents_len : ∀ lg ∈ Bents, lg.length ≤ 60 := by decide +kernel
section
variable {P : Program} {w : World} {K : PySem.W.Frag} {mg : Str → Option Value} {base : Heap} {f : Addr} {cdv : Value} {A : Around} {outer : List Env} {s0 : Shared} {Hs : Hp} {E : XK}
theorem law_odds (T : Top P K mg) (hr : Room 10 (XL P w K mg base f cdv A outer s0 Hs E).A) :
    ∃ t, PSs (XL P w K mg base f cdv A outer s0 Hs E) (bK.drop 9) t ∧ ∀ (D : Ends) (a : Addr) (ns : List Int) (s : Stt) (x1 x6 x7 x8 x9 x10 x11 x12 x13 : Option V) (H0 : Hp), LI K a ns s H0 →
      (∀ (x7' x9' x10' x11' x12' x13' : Option V) H', LI K a ns s H' → D.nx (SL a s x1 x6 x7' x8 x9' x10' x11' x12' x13') H') →
      t D (SL a s x1 x6 x7 x8 x9 x10 x11 x12 x13) H0 := by
  have B := T.B
  have ONm : Ok P w K mg base CX0 1 "_law_name" ["name"] spNm := T.oNm
  have OP : Ok P w K mg base CX0 2 "_law_pick" ["box", "some"] (spPick K) := T.oPk
  have OKH : Ok P w K mg base CX0 10 "_law_heard" ["items"] (spKH K) := T.oKh
  refine ⟨_, pss_cons (ps_set (i := 9) scL.nd rfl (.inl rfl) (pe_lst (pa_cons (pe_tup (pa_cons (pe_op op_catA (pe_tup (pa_cons pe_int (pa_cons pe_int (pa_cons pe_int pa_nil)))) (c_fn ONm hr (pa_cons pe_int pa_nil))) (pa_cons (c_fn ONm hr (pa_cons pe_int pa_nil)) pa_nil))) pa_nil)))
    (pss_cons (ps_set (i := 10) scL.nd rfl (.inl rfl) (c_fn OP hr (pa_cons (pv 2) (pa_cons (pe_op op_cat (pv 9) (pe_lst (pa_cons (pe_tup (pa_cons (pe_tup (pa_cons pe_int (pa_cons pe_int pa_nil))) (pa_cons (c_fn ONm hr (pa_cons (pe_op op_sub (pe_op op_pow pe_int pe_int) pe_int) pa_nil)) pa_nil))) (pa_cons (pe_tup (pa_cons (pe_tup (pa_cons pe_int (pa_cons pe_int pa_nil))) (pa_cons (pe_op op_repT (pe_tup (pa_cons pe_int pa_nil)) pe_int) pa_nil))) (pa_cons (pe_tup (pa_cons (pe_op op_catA (pe_tup (pa_cons pe_int pa_nil)) (pe_op op_repT (pe_tup (pa_cons pe_int pa_nil)) pe_int)) (pa_cons (c_fn ONm hr (pa_cons pe_int pa_nil)) pa_nil))) (pa_cons (pe_tup (pa_cons (pe_tup (pa_cons pe_int pa_nil)) (pa_cons (c_fn ONm hr (pa_cons pe_int pa_nil)) pa_nil))) (pa_cons (pe_tup (pa_cons (pe_tup (pa_cons pe_int (pa_cons pe_int pa_nil))) (pa_cons (pe_tup pa_nil) pa_nil))) (pa_cons (pe_tup (pa_cons (pe_tup (pa_cons pe_int (pa_cons pe_int pa_nil))) (pa_cons (pe_op op_repT (pe_tup (pa_cons pe_int pa_nil)) pe_int) pa_nil))) pa_nil)))))))) pa_nil))))
    (pss_cons (ps_if (pt_cmpR (op_neD hr.units) (c_fn OKH hr (pa_cons (c_tuple B (pe_lst (pa_cons (pv 10) pa_nil))) pa_nil)) (pe_tup (pa_cons pe_str (pa_cons (pe_ix ix_tup (pv 10) pe_int (fun _ _ => rfl)) pa_nil))) (nomark _)) (pss_one (ps_ret pe_bl)) pss_nil)
    (pss_cons (ps_par (i := 11) (j := 12) (by rfl) scL.nd rfl rfl (by decide) rfl rfl (pa_cons (pe_op op_repT (pe_tup (pa_cons pe_int pa_nil)) pe_int) (pa_cons (pe_op op_catA (pe_tup (pa_cons pe_int pa_nil)) (c_fn ONm hr (pa_cons pe_int pa_nil))) pa_nil)) (by rfl))
    (pss_cons (ps_set (i := 13) scL.nd rfl (.inl rfl) (pe_tup (pa_cons (pe_op op_catA (pe_tup (pa_cons pe_int pa_nil)) (pe_op op_repT (pe_tup (pa_cons pe_int pa_nil)) pe_int)) (pa_cons (pe_op op_catA (pe_op op_catA (c_fn ONm hr (pa_cons pe_int pa_nil)) (pv 11)) (pv 12)) pa_nil))))
    (pss_cons (ps_if (pt_cmpR (op_neD hr.units) (c_fn OKH hr (pa_cons (pe_tup (pa_cons (pv 13) (pa_cons (pe_tup (pa_cons (pe_tup (pa_cons pe_int (pa_cons pe_int pa_nil))) (pa_cons (pe_tup pa_nil) pa_nil))) pa_nil))) pa_nil)) (pe_tup (pa_cons pe_str (pa_cons (pe_ix ix_tup (pv 13) pe_int (fun _ _ => rfl)) pa_nil))) (nomark _)) (pss_one (ps_ret pe_bl)) pss_nil)
    (pss_cons (ps_set (i := 7) scL.nd rfl (.inl rfl) (c_fn OP hr (pa_cons (pv 2) (pa_cons (pe_lst (pa_cons (pe_op op_catA (pe_op op_catA (pv 11) (pe_tup (pa_cons pe_int pa_nil))) (c_fn ONm hr (pa_cons pe_int pa_nil))) (pa_cons (pe_op op_catA (pe_op op_catA (pe_tup (pa_cons pe_int (pa_cons pe_int pa_nil))) (pe_op op_repT (pe_tup (pa_cons pe_int pa_nil)) pe_int)) (pv 12)) (pa_cons (pe_op op_catA (pe_op op_catA (pv 11) (pe_tup (pa_cons pe_int pa_nil))) (pe_op op_repT (pe_tup (pa_cons pe_int pa_nil)) pe_int)) (pa_cons (pe_op op_catA (pe_op op_catA (pe_tup (pa_cons pe_int pa_nil)) (c_fn ONm hr (pa_cons (pe_op op_sub (pe_op op_pow pe_int pe_int) pe_int) pa_nil))) (pv 12)) pa_nil))))) pa_nil))))
    (pss_cons (ps_if (pt_cmpR (op_neD hr.units) (c_fn OKH hr (pa_cons (pe_tup (pa_cons (pe_tup (pa_cons (pe_tup (pa_cons pe_int (pa_cons pe_int pa_nil))) (pa_cons (c_fn ONm hr (pa_cons pe_int pa_nil)) pa_nil))) (pa_cons (pe_tup (pa_cons (pe_tup (pa_cons pe_int (pa_cons pe_int pa_nil))) (pa_cons (pe_op op_catA (c_fn ONm hr (pa_cons pe_int pa_nil)) (pv 7)) pa_nil))) pa_nil))) pa_nil)) (pe_tup (pa_cons pe_str (pa_cons (pe_tup (pa_cons pe_int (pa_cons pe_int pa_nil))) pa_nil))) (nomark _)) (pss_one (ps_ret pe_bl)) pss_nil)
    (pss_one (ps_if (pt_cmpR (op_neD hr.units) (c_fn OKH hr (pa_cons (pe_tup (pa_cons (pe_tup (pa_cons (pe_tup (pa_cons pe_int pa_nil)) (pa_cons (c_fn OP hr (pa_cons (pv 2) (pa_cons (pe_lst (pa_cons (pe_tup pa_nil) (pa_cons (pe_op op_repT (pe_tup (pa_cons pe_int pa_nil)) pe_int) (pa_cons (pe_op op_repT (pe_tup (pa_cons pe_int pa_nil)) pe_int) pa_nil)))) pa_nil))) pa_nil))) pa_nil)) pa_nil)) (pe_tup (pa_cons pe_str (pa_cons (pe_tup (pa_cons pe_int pa_nil)) pa_nil))) (nomark _)) (pss_one (ps_ret pe_bl)) pss_nil))))))))), ?_⟩
  intro D a ns s x1 x6 x7 x8 x9 x10 x11 x12 x13 H0 I0 k
  refine ⟨sz3, fun q1 n1 => ?_⟩
  have s1 : Same H0 (upd H0 q1 (.tup [.int 82, .int 64, .int 3])) := Same.new n1
  have e1 : (upd H0 q1 (.tup [.int 82, .int 64, .int 3])) q1 = some (.tup (([82, 64, 3] : List Int).map V.int)) := upd_same
  generalize upd H0 q1 (.tup [.int 82, .int 64, .int 3]) = H1 at s1 e1 ⊢
  have k1 : TupK H0 H1 := .of s1
  have I1 := I0.keep s1
  refine ⟨5, rfl, fun q2 H2 s2 e2 => ?_⟩
  have k2 : TupK H1 H2 := .of s2
  have I2 := I1.keep s2
  refine catA_of (xs := ([82, 64, 3] : List Int).map V.int) (ys := (be 8 5 : List Int).map V.int) (k2 _ _ e1) e2 (by decide +kernel) fun q3 H3 s3 e3 => ?_
  rw [← List.map_append] at e3
  have k3 : TupK H2 H3 := .of s3
  have I3 := I2.keep s3
  refine ⟨6, rfl, fun q4 H4 s4 e4 => ?_⟩
  have k4 : TupK H3 H4 := .of s4
  have I4 := I3.keep s4
  refine ⟨sz2, fun q5 n5 => ?_⟩
  have s5 : Same H4 (upd H4 q5 (.tup [.ref q3, .ref q4])) := Same.new n5
  have e5 : (upd H4 q5 (.tup [.ref q3, .ref q4])) q5 = some (.tup [.ref q3, .ref q4]) := upd_same
  generalize upd H4 q5 (.tup [.ref q3, .ref q4]) = H5 at s5 e5 ⊢
  have k5 : TupK H4 H5 := .of s5
  have I5 := I4.keep s5
  refine ⟨sz1, fun q6 n6 => ?_⟩
  have s6 : Same H5 (upd H5 q6 (.lst [.ref q5])) := Same.new n6
  have e6 : (upd H5 q6 (.lst [.ref q5])) q6 = some (.lst [.ref q5]) := upd_same
  have nb6 : q6 ≠ s.b := I5.box.ne n6
  generalize upd H5 q6 (.lst [.ref q5]) = H6 at s6 e6 ⊢
  have k6 : TupK H5 H6 := .of s6
  have I6 := I5.keep s6
  refine ⟨_, rfl, ?_⟩
  refine ⟨_, rfl, ?_⟩
  refine ⟨sz2, fun q7 n7 => ?_⟩
  have s7 : Same H6 (upd H6 q7 (.tup [.int 82, .int 9])) := Same.new n7
  have e7 : (upd H6 q7 (.tup [.int 82, .int 9])) q7 = some (.tup (([82, 9] : List Int).map V.int)) := upd_same
  generalize upd H6 q7 (.tup [.int 82, .int 9]) = H7 at s7 e7 ⊢
  have k7 : TupK H6 H7 := .of s7
  have I7 := I6.keep s7
  refine ⟨_, _, rfl, rfl, ⟨by decide, by decide, by decide⟩, _, _, rfl, rfl, 2 ^ 61 - 1, rfl, fun q8 H8 s8 e8 => ?_⟩
  have k8 : TupK H7 H8 := .of s8
  have I8 := I7.keep s8
  refine ⟨sz2, fun q9 n9 => ?_⟩
  have s9 : Same H8 (upd H8 q9 (.tup [.ref q7, .ref q8])) := Same.new n9
  have e9 : (upd H8 q9 (.tup [.ref q7, .ref q8])) q9 = some (.tup [.ref q7, .ref q8]) := upd_same
  generalize upd H8 q9 (.tup [.ref q7, .ref q8]) = H9 at s9 e9 ⊢
  have k9 : TupK H8 H9 := .of s9
  have I9 := I8.keep s9
  refine ⟨sz2, fun q10 n10 => ?_⟩
  have s10 : Same H9 (upd H9 q10 (.tup [.int 82, .int 9])) := Same.new n10
  have e10 : (upd H9 q10 (.tup [.int 82, .int 9])) q10 = some (.tup (([82, 9] : List Int).map V.int)) := upd_same
  generalize upd H9 q10 (.tup [.int 82, .int 9]) = H10 at s10 e10 ⊢
  have k10 : TupK H9 H10 := .of s10
  have I10 := I9.keep s10
  refine ⟨sz1, fun u11 m11 => ⟨u11, 7, _, rfl, rfl, SqT.of upd_same, (by intro z; cases z), by decide, by decide, by decide, fun q11 n11 => ?_⟩⟩
  have s11 : Same H10 (upd (upd H10 u11 (.tup [.int 0])) q11 (.tup (List.replicate (Int.toNat 7) [V.int 0]).flatten)) := (Same.new m11).up n11
  have e11 : (upd (upd H10 u11 (.tup [.int 0])) q11 (.tup (List.replicate (Int.toNat 7) [V.int 0]).flatten)) q11 = some (.tup ((List.replicate 7 0 : List Int).map V.int)) := upd_same
  generalize upd (upd H10 u11 (.tup [.int 0])) q11 (.tup (List.replicate (Int.toNat 7) [V.int 0]).flatten) = H11 at s11 e11 ⊢
  have k11 : TupK H10 H11 := .of s11
  have I11 := I10.keep s11
  refine ⟨sz2, fun q12 n12 => ?_⟩
  have s12 : Same H11 (upd H11 q12 (.tup [.ref q10, .ref q11])) := Same.new n12
  have e12 : (upd H11 q12 (.tup [.ref q10, .ref q11])) q12 = some (.tup [.ref q10, .ref q11]) := upd_same
  generalize upd H11 q12 (.tup [.ref q10, .ref q11]) = H12 at s12 e12 ⊢
  have k12 : TupK H11 H12 := .of s12
  have I12 := I11.keep s12
  refine ⟨sz1, fun q13 n13 => ?_⟩
  have s13 : Same H12 (upd H12 q13 (.tup [.int 82])) := Same.new n13
  have e13 : (upd H12 q13 (.tup [.int 82])) q13 = some (.tup (([82] : List Int).map V.int)) := upd_same
  generalize upd H12 q13 (.tup [.int 82]) = H13 at s13 e13 ⊢
  have k13 : TupK H12 H13 := .of s13
  have I13 := I12.keep s13
  refine ⟨sz1, fun u14 m14 => ⟨u14, 21, _, rfl, rfl, SqT.of upd_same, (by intro z; cases z), by decide, by decide, by decide, fun q14 n14 => ?_⟩⟩
  have s14 : Same H13 (upd (upd H13 u14 (.tup [.int 9])) q14 (.tup (List.replicate (Int.toNat 21) [V.int 9]).flatten)) := (Same.new m14).up n14
  have e14 : (upd (upd H13 u14 (.tup [.int 9])) q14 (.tup (List.replicate (Int.toNat 21) [V.int 9]).flatten)) q14 = some (.tup ((List.replicate 21 9 : List Int).map V.int)) := upd_same
  generalize upd (upd H13 u14 (.tup [.int 9])) q14 (.tup (List.replicate (Int.toNat 21) [V.int 9]).flatten) = H14 at s14 e14 ⊢
  have k14 : TupK H13 H14 := .of s14
  have I14 := I13.keep s14
  refine catA_of (xs := ([82] : List Int).map V.int) (ys := (List.replicate 21 9 : List Int).map V.int) (k14 _ _ e13) e14 (by decide +kernel) fun q15 H15 s15 e15 => ?_
  rw [← List.map_append] at e15
  have k15 : TupK H14 H15 := .of s15
  have I15 := I14.keep s15
  refine ⟨1, rfl, fun q16 H16 s16 e16 => ?_⟩
  have k16 : TupK H15 H16 := .of s16
  have I16 := I15.keep s16
  refine ⟨sz2, fun q17 n17 => ?_⟩
  have s17 : Same H16 (upd H16 q17 (.tup [.ref q15, .ref q16])) := Same.new n17
  have e17 : (upd H16 q17 (.tup [.ref q15, .ref q16])) q17 = some (.tup [.ref q15, .ref q16]) := upd_same
  generalize upd H16 q17 (.tup [.ref q15, .ref q16]) = H17 at s17 e17 ⊢
  have k17 : TupK H16 H17 := .of s17
  have I17 := I16.keep s17
  refine ⟨sz1, fun q18 n18 => ?_⟩
  have s18 : Same H17 (upd H17 q18 (.tup [.int 82])) := Same.new n18
  have e18 : (upd H17 q18 (.tup [.int 82])) q18 = some (.tup (([82] : List Int).map V.int)) := upd_same
  generalize upd H17 q18 (.tup [.int 82]) = H18 at s18 e18 ⊢
  have k18 : TupK H17 H18 := .of s18
  have I18 := I17.keep s18
  refine ⟨1, rfl, fun q19 H19 s19 e19 => ?_⟩
  have k19 : TupK H18 H19 := .of s19
  have I19 := I18.keep s19
  refine ⟨sz2, fun q20 n20 => ?_⟩
  have s20 : Same H19 (upd H19 q20 (.tup [.ref q18, .ref q19])) := Same.new n20
  have e20 : (upd H19 q20 (.tup [.ref q18, .ref q19])) q20 = some (.tup [.ref q18, .ref q19]) := upd_same
  generalize upd H19 q20 (.tup [.ref q18, .ref q19]) = H20 at s20 e20 ⊢
  have k20 : TupK H19 H20 := .of s20
  have I20 := I19.keep s20
  refine ⟨sz2, fun q21 n21 => ?_⟩
  have s21 : Same H20 (upd H20 q21 (.tup [.int 76, .int 9])) := Same.new n21
  have e21 : (upd H20 q21 (.tup [.int 76, .int 9])) q21 = some (.tup (([76, 9] : List Int).map V.int)) := upd_same
  generalize upd H20 q21 (.tup [.int 76, .int 9]) = H21 at s21 e21 ⊢
  have k21 : TupK H20 H21 := .of s21
  have I21 := I20.keep s21
  refine ⟨sz0, fun q22 n22 => ?_⟩
  have s22 : Same H21 (upd H21 q22 (.tup [])) := Same.new n22
  have e22 : (upd H21 q22 (.tup [])) q22 = some (.tup (([] : List Int).map V.int)) := upd_same
  generalize upd H21 q22 (.tup []) = H22 at s22 e22 ⊢
  have k22 : TupK H21 H22 := .of s22
  have I22 := I21.keep s22
  refine ⟨sz2, fun q23 n23 => ?_⟩
  have s23 : Same H22 (upd H22 q23 (.tup [.ref q21, .ref q22])) := Same.new n23
  have e23 : (upd H22 q23 (.tup [.ref q21, .ref q22])) q23 = some (.tup [.ref q21, .ref q22]) := upd_same
  generalize upd H22 q23 (.tup [.ref q21, .ref q22]) = H23 at s23 e23 ⊢
  have k23 : TupK H22 H23 := .of s23
  have I23 := I22.keep s23
  refine ⟨sz2, fun q24 n24 => ?_⟩
  have s24 : Same H23 (upd H23 q24 (.tup [.int 76, .int 9])) := Same.new n24
  have e24 : (upd H23 q24 (.tup [.int 76, .int 9])) q24 = some (.tup (([76, 9] : List Int).map V.int)) := upd_same
  generalize upd H23 q24 (.tup [.int 76, .int 9]) = H24 at s24 e24 ⊢
  have k24 : TupK H23 H24 := .of s24
  have I24 := I23.keep s24
  refine ⟨sz1, fun u25 m25 => ⟨u25, 25, _, rfl, rfl, SqT.of upd_same, (by intro z; cases z), by decide, by decide, by decide, fun q25 n25 => ?_⟩⟩
  have s25 : Same H24 (upd (upd H24 u25 (.tup [.int 0])) q25 (.tup (List.replicate (Int.toNat 25) [V.int 0]).flatten)) := (Same.new m25).up n25
  have e25 : (upd (upd H24 u25 (.tup [.int 0])) q25 (.tup (List.replicate (Int.toNat 25) [V.int 0]).flatten)) q25 = some (.tup ((List.replicate 25 0 : List Int).map V.int)) := upd_same
  generalize upd (upd H24 u25 (.tup [.int 0])) q25 (.tup (List.replicate (Int.toNat 25) [V.int 0]).flatten) = H25 at s25 e25 ⊢
  have k25 : TupK H24 H25 := .of s25
  have I25 := I24.keep s25
  refine ⟨sz2, fun q26 n26 => ?_⟩
  have s26 : Same H25 (upd H25 q26 (.tup [.ref q24, .ref q25])) := Same.new n26
  have e26 : (upd H25 q26 (.tup [.ref q24, .ref q25])) q26 = some (.tup [.ref q24, .ref q25]) := upd_same
  generalize upd H25 q26 (.tup [.ref q24, .ref q25]) = H26 at s26 e26 ⊢
  have k26 : TupK H25 H26 := .of s26
  have I26 := I25.keep s26
  refine ⟨sz6, fun q27 n27 => ?_⟩
  have s27 : Same H26 (upd H26 q27 (.lst [.ref q9, .ref q12, .ref q17, .ref q20, .ref q23, .ref q26])) := Same.new n27
  have e27 : (upd H26 q27 (.lst [.ref q9, .ref q12, .ref q17, .ref q20, .ref q23, .ref q26])) q27 = some (.lst [.ref q9, .ref q12, .ref q17, .ref q20, .ref q23, .ref q26]) := upd_same
  have nb27 : q27 ≠ s.b := I26.box.ne n27
  generalize upd H26 q27 (.lst [.ref q9, .ref q12, .ref q17, .ref q20, .ref q23, .ref q26]) = H27 at s27 e27 ⊢
  have k27 : TupK H26 H27 := .of s27
  have I27 := I26.keep s27
  refine ⟨q6, q27, _, _, rfl, rfl, (s27 _ _ (s26 _ _ (s25 _ _ (s24 _ _ (s23 _ _ (s22 _ _ (s21 _ _ (s20 _ _ (s19 _ _ (s18 _ _ (s17 _ _ (s16 _ _ (s15 _ _ (s14 _ _ (s13 _ _ (s12 _ _ (s11 _ _ (s10 _ _ (s9 _ _ (s8 _ _ (s7 _ _ e6))))))))))))))))))))), e27, Nat.le_of_lt (big (by show 1 + 6 ≤ 4000; decide)), fun q28 n28 => ?_⟩
  obtain ⟨H28, hH28⟩ : ∃ X, X = upd H27 q28 (.lst ([.ref q5] ++ [.ref q9, .ref q12, .ref q17, .ref q20, .ref q23, .ref q26])) := ⟨_, rfl⟩
  rw [← hH28]
  have nb28 : q28 ≠ s.b := I27.box.ne n28
  have s28 : Same H27 H28 := by rw [hH28]; exact Same.new n28
  have e28 : H28 q28 = some (.lst ([.ref q5] ++ [.ref q9, .ref q12, .ref q17, .ref q20, .ref q23, .ref q26])) := by rw [hH28, upd_same]
  have k28 : TupK H27 H28 := .of s28
  have I28 := I27.keep s28
  refine ⟨s.b, q28, _, rfl, I28.box, SqL.of e28, nb28, (by intro z; cases z), (by show 7 < 1073741824; decide), fun v29 H29 hv29 f29 b29 => ?_⟩
  have I29 := I28.fr f29 b29
  have k29 : TupK H28 H29 := f29.tupK I28.box
  have rowsO : ItemsAt H29 ([(q5, (82 :: 64 :: 3 :: be 8 5, be 8 6)), (q9, ([82, 9], be 8 (2 ^ 61 - 1))), (q12, ([82, 9], List.replicate 7 0)), (q17, (82 :: List.replicate 21 9, be 8 1)), (q20, ([82], be 8 1)), (q23, ([76, 9], [])), (q26, ([76, 9], List.replicate 25 0))] : List (Addr × Item)) Odds := ⟨rfl, fun z hz => by
    rcases List.mem_cons.mp hz with rfl | hz
    · exact ⟨q3, q4, (k29 _ _ (k28 _ _ (k27 _ _ (k26 _ _ (k25 _ _ (k24 _ _ (k23 _ _ (k22 _ _ (k21 _ _ (k20 _ _ (k19 _ _ (k18 _ _ (k17 _ _ (k16 _ _ (k15 _ _ (k14 _ _ (k13 _ _ (k12 _ _ (k11 _ _ (k10 _ _ (k9 _ _ (k8 _ _ (k7 _ _ (k6 _ _ e5)))))))))))))))))))))))), (k29 _ _ (k28 _ _ (k27 _ _ (k26 _ _ (k25 _ _ (k24 _ _ (k23 _ _ (k22 _ _ (k21 _ _ (k20 _ _ (k19 _ _ (k18 _ _ (k17 _ _ (k16 _ _ (k15 _ _ (k14 _ _ (k13 _ _ (k12 _ _ (k11 _ _ (k10 _ _ (k9 _ _ (k8 _ _ (k7 _ _ (k6 _ _ (k5 _ _ (k4 _ _ e3)))))))))))))))))))))))))), (k29 _ _ (k28 _ _ (k27 _ _ (k26 _ _ (k25 _ _ (k24 _ _ (k23 _ _ (k22 _ _ (k21 _ _ (k20 _ _ (k19 _ _ (k18 _ _ (k17 _ _ (k16 _ _ (k15 _ _ (k14 _ _ (k13 _ _ (k12 _ _ (k11 _ _ (k10 _ _ (k9 _ _ (k8 _ _ (k7 _ _ (k6 _ _ (k5 _ _ e4)))))))))))))))))))))))))⟩
    rcases List.mem_cons.mp hz with rfl | hz
    · exact ⟨q7, q8, (k29 _ _ (k28 _ _ (k27 _ _ (k26 _ _ (k25 _ _ (k24 _ _ (k23 _ _ (k22 _ _ (k21 _ _ (k20 _ _ (k19 _ _ (k18 _ _ (k17 _ _ (k16 _ _ (k15 _ _ (k14 _ _ (k13 _ _ (k12 _ _ (k11 _ _ (k10 _ _ e9)))))))))))))))))))), (k29 _ _ (k28 _ _ (k27 _ _ (k26 _ _ (k25 _ _ (k24 _ _ (k23 _ _ (k22 _ _ (k21 _ _ (k20 _ _ (k19 _ _ (k18 _ _ (k17 _ _ (k16 _ _ (k15 _ _ (k14 _ _ (k13 _ _ (k12 _ _ (k11 _ _ (k10 _ _ (k9 _ _ (k8 _ _ e7)))))))))))))))))))))), (k29 _ _ (k28 _ _ (k27 _ _ (k26 _ _ (k25 _ _ (k24 _ _ (k23 _ _ (k22 _ _ (k21 _ _ (k20 _ _ (k19 _ _ (k18 _ _ (k17 _ _ (k16 _ _ (k15 _ _ (k14 _ _ (k13 _ _ (k12 _ _ (k11 _ _ (k10 _ _ (k9 _ _ e8)))))))))))))))))))))⟩
    rcases List.mem_cons.mp hz with rfl | hz
    · exact ⟨q10, q11, (k29 _ _ (k28 _ _ (k27 _ _ (k26 _ _ (k25 _ _ (k24 _ _ (k23 _ _ (k22 _ _ (k21 _ _ (k20 _ _ (k19 _ _ (k18 _ _ (k17 _ _ (k16 _ _ (k15 _ _ (k14 _ _ (k13 _ _ e12))))))))))))))))), (k29 _ _ (k28 _ _ (k27 _ _ (k26 _ _ (k25 _ _ (k24 _ _ (k23 _ _ (k22 _ _ (k21 _ _ (k20 _ _ (k19 _ _ (k18 _ _ (k17 _ _ (k16 _ _ (k15 _ _ (k14 _ _ (k13 _ _ (k12 _ _ (k11 _ _ e10))))))))))))))))))), (k29 _ _ (k28 _ _ (k27 _ _ (k26 _ _ (k25 _ _ (k24 _ _ (k23 _ _ (k22 _ _ (k21 _ _ (k20 _ _ (k19 _ _ (k18 _ _ (k17 _ _ (k16 _ _ (k15 _ _ (k14 _ _ (k13 _ _ (k12 _ _ e11))))))))))))))))))⟩
    rcases List.mem_cons.mp hz with rfl | hz
    · exact ⟨q15, q16, (k29 _ _ (k28 _ _ (k27 _ _ (k26 _ _ (k25 _ _ (k24 _ _ (k23 _ _ (k22 _ _ (k21 _ _ (k20 _ _ (k19 _ _ (k18 _ _ e17)))))))))))), (k29 _ _ (k28 _ _ (k27 _ _ (k26 _ _ (k25 _ _ (k24 _ _ (k23 _ _ (k22 _ _ (k21 _ _ (k20 _ _ (k19 _ _ (k18 _ _ (k17 _ _ (k16 _ _ e15)))))))))))))), (k29 _ _ (k28 _ _ (k27 _ _ (k26 _ _ (k25 _ _ (k24 _ _ (k23 _ _ (k22 _ _ (k21 _ _ (k20 _ _ (k19 _ _ (k18 _ _ (k17 _ _ e16)))))))))))))⟩
    rcases List.mem_cons.mp hz with rfl | hz
    · exact ⟨q18, q19, (k29 _ _ (k28 _ _ (k27 _ _ (k26 _ _ (k25 _ _ (k24 _ _ (k23 _ _ (k22 _ _ (k21 _ _ e20))))))))), (k29 _ _ (k28 _ _ (k27 _ _ (k26 _ _ (k25 _ _ (k24 _ _ (k23 _ _ (k22 _ _ (k21 _ _ (k20 _ _ (k19 _ _ e18))))))))))), (k29 _ _ (k28 _ _ (k27 _ _ (k26 _ _ (k25 _ _ (k24 _ _ (k23 _ _ (k22 _ _ (k21 _ _ (k20 _ _ e19))))))))))⟩
    rcases List.mem_cons.mp hz with rfl | hz
    · exact ⟨q21, q22, (k29 _ _ (k28 _ _ (k27 _ _ (k26 _ _ (k25 _ _ (k24 _ _ e23)))))), (k29 _ _ (k28 _ _ (k27 _ _ (k26 _ _ (k25 _ _ (k24 _ _ (k23 _ _ (k22 _ _ e21)))))))), (k29 _ _ (k28 _ _ (k27 _ _ (k26 _ _ (k25 _ _ (k24 _ _ (k23 _ _ e22)))))))⟩
    rcases List.mem_cons.mp hz with rfl | hz
    · exact ⟨q24, q25, (k29 _ _ (k28 _ _ (k27 _ _ e26))), (k29 _ _ (k28 _ _ (k27 _ _ (k26 _ _ (k25 _ _ e24))))), (k29 _ _ (k28 _ _ (k27 _ _ (k26 _ _ e25))))⟩
    · cases hz⟩
  obtain ⟨zo, hzo, rfl⟩ : ∃ z ∈ ([(q5, (82 :: 64 :: 3 :: be 8 5, be 8 6)), (q9, ([82, 9], be 8 (2 ^ 61 - 1))), (q12, ([82, 9], List.replicate 7 0)), (q17, (82 :: List.replicate 21 9, be 8 1)), (q20, ([82], be 8 1)), (q23, ([76, 9], [])), (q26, ([76, 9], List.replicate 25 0))] : List (Addr × Item)), v29 = .ref z.1 := by
    obtain ⟨z, hz, e⟩ := List.mem_map.mp (show v29 ∈ refs ([(q5, (82 :: 64 :: 3 :: be 8 5, be 8 6)), (q9, ([82, 9], be 8 (2 ^ 61 - 1))), (q12, ([82, 9], List.replicate 7 0)), (q17, (82 :: List.replicate 21 9, be 8 1)), (q20, ([82], be 8 1)), (q23, ([76, 9], [])), (q26, ([76, 9], List.replicate 25 0))] : List (Addr × Item)) from hv29)
    exact ⟨z, hz, e.symm⟩
  have hzO : zo.2 ∈ Odds := by rw [← rowsO.eq]; exact List.mem_map.mpr ⟨zo, hzo, rfl⟩
  obtain ⟨zq1, zq2, zh1, zh2, zh3⟩ := rowsO.at' zo hzo
  clear rowsO hzo hv29
  have okO := odd_brk hzO
  refine ⟨_, rfl, ?_⟩
  refine ⟨sz1, fun q30 n30 => ?_⟩
  have s30 : Same H29 (upd H29 q30 (.lst [.ref zo.1])) := Same.new n30
  have e30 : (upd H29 q30 (.lst [.ref zo.1])) q30 = some (.lst [.ref zo.1]) := upd_same
  have nb30 : q30 ≠ s.b := I29.box.ne n30
  generalize upd H29 q30 (.lst [.ref zo.1]) = H30 at s30 e30 ⊢
  have k30 : TupK H29 H30 := .of s30
  have I30 := I29.keep s30
  refine ⟨q30, _, rfl, .inl ⟨SqL.of e30, fun q31 n31 => ?_⟩⟩
  obtain ⟨H31, hH31⟩ : ∃ X, X = upd H30 q31 (.tup [.ref zo.1]) := ⟨_, rfl⟩
  rw [← hH31]
  have s31 : Same H30 H31 := by rw [hH31]; exact Same.new n31
  have e31 : H31 q31 = some (.tup [.ref zo.1]) := by rw [hH31, upd_same]
  have k31 : TupK H30 H31 := .of s31
  have I31 := I30.keep s31
  refine ⟨q31, [zo], [zo.2], rfl, e31, ⟨rfl, fun z hz => by rw [List.mem_singleton.mp hz]; exact ⟨zq1, zq2, (k31 _ _ (k30 _ _ zh1)), (k31 _ _ (k30 _ _ zh2)), (k31 _ _ (k30 _ _ zh3))⟩⟩, (by show 1 ≤ 60; decide), (fun it hit => by rw [List.mem_singleton.mp hit]; exact okO.2), fun p32 H32 s32 hd32 => ?_⟩
  have k32 : TupK H31 H32 := .of s32
  have I32 := I31.keep s32
  refine ⟨_, rfl, zo.1, _, _, .ref zq1, rfl, rfl, SqT.of (k32 _ _ (k31 _ _ (k30 _ _ zh1))), atI_nat (j := 0) rfl, ?_⟩
  refine ⟨sz2, fun q33 n33 => ?_⟩
  have s33 : Same H32 (upd H32 q33 (.tup [.str "broken", .ref zq1])) := Same.new n33
  have e33 : (upd H32 q33 (.tup [.str "broken", .ref zq1])) q33 = some (.tup [.str "broken", .ref zq1]) := upd_same
  generalize upd H32 q33 (.tup [.str "broken", .ref zq1]) = H33 at s33 e33 ⊢
  have k33 : TupK H32 H33 := .of s33
  have I33 := I32.keep s33
  refine heard_ne okO.1 (Dp.keeps s33 _ _ hd32) (k33 _ _ (k32 _ _ (k31 _ _ (k30 _ _ zh2)))) e33 ⟨_, rfl, iteF ?_⟩
  refine ⟨sz1, fun u34 m34 => ⟨u34, 9, _, rfl, rfl, SqT.of upd_same, (by intro z; cases z), by decide, by decide, by decide, fun q34 n34 => ?_⟩⟩
  have s34 : Same H33 (upd (upd H33 u34 (.tup [.int 0])) q34 (.tup (List.replicate (Int.toNat 9) [V.int 0]).flatten)) := (Same.new m34).up n34
  have e34 : (upd (upd H33 u34 (.tup [.int 0])) q34 (.tup (List.replicate (Int.toNat 9) [V.int 0]).flatten)) q34 = some (.tup ((List.replicate 9 0 : List Int).map V.int)) := upd_same
  generalize upd (upd H33 u34 (.tup [.int 0])) q34 (.tup (List.replicate (Int.toNat 9) [V.int 0]).flatten) = H34 at s34 e34 ⊢
  have k34 : TupK H33 H34 := .of s34
  have I34 := I33.keep s34
  refine ⟨sz1, fun q35 n35 => ?_⟩
  have s35 : Same H34 (upd H34 q35 (.tup [.int 1])) := Same.new n35
  have e35 : (upd H34 q35 (.tup [.int 1])) q35 = some (.tup (([1] : List Int).map V.int)) := upd_same
  generalize upd H34 q35 (.tup [.int 1]) = H35 at s35 e35 ⊢
  have k35 : TupK H34 H35 := .of s35
  have I35 := I34.keep s35
  refine ⟨5, rfl, fun q36 H36 s36 e36 => ?_⟩
  have k36 : TupK H35 H36 := .of s36
  have I36 := I35.keep s36
  refine catA_of (xs := ([1] : List Int).map V.int) (ys := (be 8 5 : List Int).map V.int) (k36 _ _ e35) e36 (by decide +kernel) fun q37 H37 s37 e37 => ?_
  rw [← List.map_append] at e37
  have k37 : TupK H36 H37 := .of s37
  have I37 := I36.keep s37
  refine ⟨_, _, rfl, ?_⟩
  refine ⟨sz1, fun q38 n38 => ?_⟩
  have s38 : Same H37 (upd H37 q38 (.tup [.int 76])) := Same.new n38
  have e38 : (upd H37 q38 (.tup [.int 76])) q38 = some (.tup (([76] : List Int).map V.int)) := upd_same
  generalize upd H37 q38 (.tup [.int 76]) = H38 at s38 e38 ⊢
  have k38 : TupK H37 H38 := .of s38
  have I38 := I37.keep s38
  refine ⟨sz1, fun u39 m39 => ⟨u39, 21, _, rfl, rfl, SqT.of upd_same, (by intro z; cases z), by decide, by decide, by decide, fun q39 n39 => ?_⟩⟩
  have s39 : Same H38 (upd (upd H38 u39 (.tup [.int 9])) q39 (.tup (List.replicate (Int.toNat 21) [V.int 9]).flatten)) := (Same.new m39).up n39
  have e39 : (upd (upd H38 u39 (.tup [.int 9])) q39 (.tup (List.replicate (Int.toNat 21) [V.int 9]).flatten)) q39 = some (.tup ((List.replicate 21 9 : List Int).map V.int)) := upd_same
  generalize upd (upd H38 u39 (.tup [.int 9])) q39 (.tup (List.replicate (Int.toNat 21) [V.int 9]).flatten) = H39 at s39 e39 ⊢
  have k39 : TupK H38 H39 := .of s39
  have I39 := I38.keep s39
  refine catA_of (xs := ([76] : List Int).map V.int) (ys := (List.replicate 21 9 : List Int).map V.int) (k39 _ _ e38) e39 (by decide +kernel) fun q40 H40 s40 e40 => ?_
  rw [← List.map_append] at e40
  have k40 : TupK H39 H40 := .of s40
  have I40 := I39.keep s40
  refine ⟨0, rfl, fun q41 H41 s41 e41 => ?_⟩
  have k41 : TupK H40 H41 := .of s41
  have I41 := I40.keep s41
  refine ⟨_, rfl, ?_⟩
  refine catA_of (xs := (be 8 0 : List Int).map V.int) (ys := (List.replicate 9 0 : List Int).map V.int) e41 (k41 _ _ (k40 _ _ (k39 _ _ (k38 _ _ (k37 _ _ (k36 _ _ (k35 _ _ e34))))))) (by decide +kernel) fun q42 H42 s42 e42 => ?_
  rw [← List.map_append] at e42
  have k42 : TupK H41 H42 := .of s42
  have I42 := I41.keep s42
  refine ⟨_, rfl, ?_⟩
  refine catA_of (xs := (be 8 0 ++ List.replicate 9 0 : List Int).map V.int) (ys := ([1] ++ be 8 5 : List Int).map V.int) e42 (k42 _ _ (k41 _ _ (k40 _ _ (k39 _ _ (k38 _ _ e37))))) (by decide +kernel) fun q43 H43 s43 e43 => ?_
  rw [← List.map_append] at e43
  have k43 : TupK H42 H43 := .of s43
  have I43 := I42.keep s43
  refine ⟨sz2, fun q44 n44 => ?_⟩
  have s44 : Same H43 (upd H43 q44 (.tup [.ref q40, .ref q43])) := Same.new n44
  have e44 : (upd H43 q44 (.tup [.ref q40, .ref q43])) q44 = some (.tup [.ref q40, .ref q43]) := upd_same
  generalize upd H43 q44 (.tup [.ref q40, .ref q43]) = H44 at s44 e44 ⊢
  have k44 : TupK H43 H44 := .of s44
  have I44 := I43.keep s44
  refine ⟨_, rfl, ?_⟩
  refine ⟨sz2, fun q45 n45 => ?_⟩
  have s45 : Same H44 (upd H44 q45 (.tup [.int 82, .int 9])) := Same.new n45
  have e45 : (upd H44 q45 (.tup [.int 82, .int 9])) q45 = some (.tup (([82, 9] : List Int).map V.int)) := upd_same
  generalize upd H44 q45 (.tup [.int 82, .int 9]) = H45 at s45 e45 ⊢
  have k45 : TupK H44 H45 := .of s45
  have I45 := I44.keep s45
  refine ⟨sz0, fun q46 n46 => ?_⟩
  have s46 : Same H45 (upd H45 q46 (.tup [])) := Same.new n46
  have e46 : (upd H45 q46 (.tup [])) q46 = some (.tup (([] : List Int).map V.int)) := upd_same
  generalize upd H45 q46 (.tup []) = H46 at s46 e46 ⊢
  have k46 : TupK H45 H46 := .of s46
  have I46 := I45.keep s46
  refine ⟨sz2, fun q47 n47 => ?_⟩
  have s47 : Same H46 (upd H46 q47 (.tup [.ref q45, .ref q46])) := Same.new n47
  have e47 : (upd H46 q47 (.tup [.ref q45, .ref q46])) q47 = some (.tup [.ref q45, .ref q46]) := upd_same
  generalize upd H46 q47 (.tup [.ref q45, .ref q46]) = H47 at s47 e47 ⊢
  have k47 : TupK H46 H47 := .of s47
  have I47 := I46.keep s47
  refine ⟨sz2, fun q48 n48 => ?_⟩
  have s48 : Same H47 (upd H47 q48 (.tup [.ref q44, .ref q47])) := Same.new n48
  have e48 : (upd H47 q48 (.tup [.ref q44, .ref q47])) q48 = some (.tup [.ref q44, .ref q47]) := upd_same
  generalize upd H47 q48 (.tup [.ref q44, .ref q47]) = H48 at s48 e48 ⊢
  have k48 : TupK H47 H48 := .of s48
  have I48 := I47.keep s48
  refine ⟨q48, [(q44, ([76] ++ List.replicate 21 9, be 8 0 ++ List.replicate 9 0 ++ ([1] ++ be 8 5))), (q47, ([82, 9], []))], longI, rfl, e48, ⟨rfl, fun z hz => by
    rcases List.mem_cons.mp hz with rfl | hz
    · exact ⟨q40, q43, (k48 _ _ (k47 _ _ (k46 _ _ (k45 _ _ e44)))), (k48 _ _ (k47 _ _ (k46 _ _ (k45 _ _ (k44 _ _ (k43 _ _ (k42 _ _ (k41 _ _ e40)))))))), (k48 _ _ (k47 _ _ (k46 _ _ (k45 _ _ (k44 _ _ e43)))))⟩
    rcases List.mem_cons.mp hz with rfl | hz
    · exact ⟨q45, q46, (k48 _ _ e47), (k48 _ _ (k47 _ _ (k46 _ _ e45))), (k48 _ _ (k47 _ _ e46))⟩
    · cases hz⟩, by decide, long_brk.2, fun p49 H49 s49 hd49 => ?_⟩
  have k49 : TupK H48 H49 := .of s49
  have I49 := I48.keep s49
  refine ⟨_, rfl, q44, _, _, .ref q40, rfl, rfl, SqT.of (k49 _ _ (k48 _ _ (k47 _ _ (k46 _ _ (k45 _ _ e44))))), atI_nat (j := 0) rfl, ?_⟩
  refine ⟨sz2, fun q50 n50 => ?_⟩
  have s50 : Same H49 (upd H49 q50 (.tup [.str "broken", .ref q40])) := Same.new n50
  have e50 : (upd H49 q50 (.tup [.str "broken", .ref q40])) q50 = some (.tup [.str "broken", .ref q40]) := upd_same
  generalize upd H49 q50 (.tup [.str "broken", .ref q40]) = H50 at s50 e50 ⊢
  have k50 : TupK H49 H50 := .of s50
  have I50 := I49.keep s50
  refine heard_ne long_brk.1 (Dp.keeps s50 _ _ hd49) (k50 _ _ (k49 _ _ (k48 _ _ (k47 _ _ (k46 _ _ (k45 _ _ (k44 _ _ (k43 _ _ (k42 _ _ (k41 _ _ e40)))))))))) e50 ⟨_, rfl, iteF ?_⟩
  refine ⟨_, rfl, ?_⟩
  refine ⟨_, rfl, ?_⟩
  refine ⟨sz1, fun q51 n51 => ?_⟩
  have s51 : Same H50 (upd H50 q51 (.tup [.int 2])) := Same.new n51
  have e51 : (upd H50 q51 (.tup [.int 2])) q51 = some (.tup (([2] : List Int).map V.int)) := upd_same
  generalize upd H50 q51 (.tup [.int 2]) = H51 at s51 e51 ⊢
  have k51 : TupK H50 H51 := .of s51
  have I51 := I50.keep s51
  refine catA_of (xs := (List.replicate 9 0 : List Int).map V.int) (ys := ([2] : List Int).map V.int) (k51 _ _ (k50 _ _ (k49 _ _ (k48 _ _ (k47 _ _ (k46 _ _ (k45 _ _ (k44 _ _ (k43 _ _ (k42 _ _ (k41 _ _ (k40 _ _ (k39 _ _ (k38 _ _ (k37 _ _ (k36 _ _ (k35 _ _ e34))))))))))))))))) e51 (by decide +kernel) fun q52 H52 s52 e52 => ?_
  rw [← List.map_append] at e52
  have k52 : TupK H51 H52 := .of s52
  have I52 := I51.keep s52
  refine ⟨5, rfl, fun q53 H53 s53 e53 => ?_⟩
  have k53 : TupK H52 H53 := .of s53
  have I53 := I52.keep s53
  refine catA_of (xs := (List.replicate 9 0 ++ [2] : List Int).map V.int) (ys := (be 8 5 : List Int).map V.int) (k53 _ _ e52) e53 (by decide +kernel) fun q54 H54 s54 e54 => ?_
  rw [← List.map_append] at e54
  have k54 : TupK H53 H54 := .of s54
  have I54 := I53.keep s54
  refine ⟨sz2, fun q55 n55 => ?_⟩
  have s55 : Same H54 (upd H54 q55 (.tup [.int 0, .int 1])) := Same.new n55
  have e55 : (upd H54 q55 (.tup [.int 0, .int 1])) q55 = some (.tup (([0, 1] : List Int).map V.int)) := upd_same
  generalize upd H54 q55 (.tup [.int 0, .int 1]) = H55 at s55 e55 ⊢
  have k55 : TupK H54 H55 := .of s55
  have I55 := I54.keep s55
  refine ⟨sz1, fun u56 m56 => ⟨u56, 7, _, rfl, rfl, SqT.of upd_same, (by intro z; cases z), by decide, by decide, by decide, fun q56 n56 => ?_⟩⟩
  have s56 : Same H55 (upd (upd H55 u56 (.tup [.int 0])) q56 (.tup (List.replicate (Int.toNat 7) [V.int 0]).flatten)) := (Same.new m56).up n56
  have e56 : (upd (upd H55 u56 (.tup [.int 0])) q56 (.tup (List.replicate (Int.toNat 7) [V.int 0]).flatten)) q56 = some (.tup ((List.replicate 7 0 : List Int).map V.int)) := upd_same
  generalize upd (upd H55 u56 (.tup [.int 0])) q56 (.tup (List.replicate (Int.toNat 7) [V.int 0]).flatten) = H56 at s56 e56 ⊢
  have k56 : TupK H55 H56 := .of s56
  have I56 := I55.keep s56
  refine catA_of (xs := ([0, 1] : List Int).map V.int) (ys := (List.replicate 7 0 : List Int).map V.int) (k56 _ _ e55) e56 (by decide +kernel) fun q57 H57 s57 e57 => ?_
  rw [← List.map_append] at e57
  have k57 : TupK H56 H57 := .of s57
  have I57 := I56.keep s57
  refine ⟨_, rfl, ?_⟩
  refine catA_of (xs := ([0, 1] ++ List.replicate 7 0 : List Int).map V.int) (ys := ([1] ++ be 8 5 : List Int).map V.int) e57 (k57 _ _ (k56 _ _ (k55 _ _ (k54 _ _ (k53 _ _ (k52 _ _ (k51 _ _ (k50 _ _ (k49 _ _ (k48 _ _ (k47 _ _ (k46 _ _ (k45 _ _ (k44 _ _ (k43 _ _ (k42 _ _ (k41 _ _ (k40 _ _ (k39 _ _ (k38 _ _ e37)))))))))))))))))))) (by decide +kernel) fun q58 H58 s58 e58 => ?_
  rw [← List.map_append] at e58
  have k58 : TupK H57 H58 := .of s58
  have I58 := I57.keep s58
  refine ⟨_, rfl, ?_⟩
  refine ⟨sz1, fun q59 n59 => ?_⟩
  have s59 : Same H58 (upd H58 q59 (.tup [.int 1])) := Same.new n59
  have e59 : (upd H58 q59 (.tup [.int 1])) q59 = some (.tup (([1] : List Int).map V.int)) := upd_same
  generalize upd H58 q59 (.tup [.int 1]) = H59 at s59 e59 ⊢
  have k59 : TupK H58 H59 := .of s59
  have I59 := I58.keep s59
  refine catA_of (xs := (List.replicate 9 0 : List Int).map V.int) (ys := ([1] : List Int).map V.int) (k59 _ _ (k58 _ _ (k57 _ _ (k56 _ _ (k55 _ _ (k54 _ _ (k53 _ _ (k52 _ _ (k51 _ _ (k50 _ _ (k49 _ _ (k48 _ _ (k47 _ _ (k46 _ _ (k45 _ _ (k44 _ _ (k43 _ _ (k42 _ _ (k41 _ _ (k40 _ _ (k39 _ _ (k38 _ _ (k37 _ _ (k36 _ _ (k35 _ _ e34))))))))))))))))))))))))) e59 (by decide +kernel) fun q60 H60 s60 e60 => ?_
  rw [← List.map_append] at e60
  have k60 : TupK H59 H60 := .of s60
  have I60 := I59.keep s60
  refine ⟨sz1, fun u61 m61 => ⟨u61, 8, _, rfl, rfl, SqT.of upd_same, (by intro z; cases z), by decide, by decide, by decide, fun q61 n61 => ?_⟩⟩
  have s61 : Same H60 (upd (upd H60 u61 (.tup [.int 255])) q61 (.tup (List.replicate (Int.toNat 8) [V.int 255]).flatten)) := (Same.new m61).up n61
  have e61 : (upd (upd H60 u61 (.tup [.int 255])) q61 (.tup (List.replicate (Int.toNat 8) [V.int 255]).flatten)) q61 = some (.tup ((List.replicate 8 255 : List Int).map V.int)) := upd_same
  generalize upd (upd H60 u61 (.tup [.int 255])) q61 (.tup (List.replicate (Int.toNat 8) [V.int 255]).flatten) = H61 at s61 e61 ⊢
  have k61 : TupK H60 H61 := .of s61
  have I61 := I60.keep s61
  refine catA_of (xs := (List.replicate 9 0 ++ [1] : List Int).map V.int) (ys := (List.replicate 8 255 : List Int).map V.int) (k61 _ _ e60) e61 (by decide +kernel) fun q62 H62 s62 e62 => ?_
  rw [← List.map_append] at e62
  have k62 : TupK H61 H62 := .of s62
  have I62 := I61.keep s62
  refine ⟨sz1, fun q63 n63 => ?_⟩
  have s63 : Same H62 (upd H62 q63 (.tup [.int 1])) := Same.new n63
  have e63 : (upd H62 q63 (.tup [.int 1])) q63 = some (.tup (([1] : List Int).map V.int)) := upd_same
  generalize upd H62 q63 (.tup [.int 1]) = H63 at s63 e63 ⊢
  have k63 : TupK H62 H63 := .of s63
  have I63 := I62.keep s63
  refine ⟨_, _, rfl, rfl, ⟨by decide, by decide, by decide⟩, _, _, rfl, rfl, 2 ^ 61 - 1, rfl, fun q64 H64 s64 e64 => ?_⟩
  have k64 : TupK H63 H64 := .of s64
  have I64 := I63.keep s64
  refine catA_of (xs := ([1] : List Int).map V.int) (ys := (be 8 (2 ^ 61 - 1) : List Int).map V.int) (k64 _ _ e63) e64 (by decide +kernel) fun q65 H65 s65 e65 => ?_
  rw [← List.map_append] at e65
  have k65 : TupK H64 H65 := .of s65
  have I65 := I64.keep s65
  refine ⟨_, rfl, ?_⟩
  refine catA_of (xs := ([1] ++ be 8 (2 ^ 61 - 1) : List Int).map V.int) (ys := ([1] ++ be 8 5 : List Int).map V.int) e65 (k65 _ _ (k64 _ _ (k63 _ _ (k62 _ _ (k61 _ _ (k60 _ _ (k59 _ _ (k58 _ _ (k57 _ _ (k56 _ _ (k55 _ _ (k54 _ _ (k53 _ _ (k52 _ _ (k51 _ _ (k50 _ _ (k49 _ _ (k48 _ _ (k47 _ _ (k46 _ _ (k45 _ _ (k44 _ _ (k43 _ _ (k42 _ _ (k41 _ _ (k40 _ _ (k39 _ _ (k38 _ _ e37)))))))))))))))))))))))))))) (by decide +kernel) fun q66 H66 s66 e66 => ?_
  rw [← List.map_append] at e66
  have k66 : TupK H65 H66 := .of s66
  have I66 := I65.keep s66
  refine ⟨sz4, fun q67 n67 => ?_⟩
  have s67 : Same H66 (upd H66 q67 (.lst [.ref q54, .ref q58, .ref q62, .ref q66])) := Same.new n67
  have e67 : (upd H66 q67 (.lst [.ref q54, .ref q58, .ref q62, .ref q66])) q67 = some (.lst [.ref q54, .ref q58, .ref q62, .ref q66]) := upd_same
  have nb67 : q67 ≠ s.b := I66.box.ne n67
  generalize upd H66 q67 (.lst [.ref q54, .ref q58, .ref q62, .ref q66]) = H67 at s67 e67 ⊢
  have k67 : TupK H66 H67 := .of s67
  have I67 := I66.keep s67
  refine ⟨s.b, q67, _, rfl, I67.box, SqL.of e67, nb67, (by intro z; cases z), (by show 4 < 1073741824; decide), fun v68 H68 hv68 f68 b68 => ?_⟩
  have I68 := I67.fr f68 b68
  have k68 : TupK H67 H68 := f68.tupK I67.box
  have rowsB : Rows H68 ([(q54, List.replicate 9 0 ++ [2] ++ be 8 5), (q58, [0, 1] ++ List.replicate 7 0 ++ ([1] ++ be 8 5)), (q62, List.replicate 9 0 ++ [1] ++ List.replicate 8 255), (q66, [1] ++ be 8 (2 ^ 61 - 1) ++ ([1] ++ be 8 5))] : List (Addr × List Int)) := fun z hz => by
    rcases List.mem_cons.mp hz with rfl | hz
    · exact (k68 _ _ (k67 _ _ (k66 _ _ (k65 _ _ (k64 _ _ (k63 _ _ (k62 _ _ (k61 _ _ (k60 _ _ (k59 _ _ (k58 _ _ (k57 _ _ (k56 _ _ (k55 _ _ e54))))))))))))))
    rcases List.mem_cons.mp hz with rfl | hz
    · exact (k68 _ _ (k67 _ _ (k66 _ _ (k65 _ _ (k64 _ _ (k63 _ _ (k62 _ _ (k61 _ _ (k60 _ _ (k59 _ _ e58))))))))))
    rcases List.mem_cons.mp hz with rfl | hz
    · exact (k68 _ _ (k67 _ _ (k66 _ _ (k65 _ _ (k64 _ _ (k63 _ _ e62))))))
    rcases List.mem_cons.mp hz with rfl | hz
    · exact (k68 _ _ (k67 _ _ e66))
    · cases hz
  obtain ⟨zb, hzb, rfl⟩ : ∃ z ∈ ([(q54, List.replicate 9 0 ++ [2] ++ be 8 5), (q58, [0, 1] ++ List.replicate 7 0 ++ ([1] ++ be 8 5)), (q62, List.replicate 9 0 ++ [1] ++ List.replicate 8 255), (q66, [1] ++ be 8 (2 ^ 61 - 1) ++ ([1] ++ be 8 5))] : List (Addr × List Int)), v68 = .ref z.1 := by
    obtain ⟨z, hz, e⟩ := List.mem_map.mp (show v68 ∈ refs ([(q54, List.replicate 9 0 ++ [2] ++ be 8 5), (q58, [0, 1] ++ List.replicate 7 0 ++ ([1] ++ be 8 5)), (q62, List.replicate 9 0 ++ [1] ++ List.replicate 8 255), (q66, [1] ++ be 8 (2 ^ 61 - 1) ++ ([1] ++ be 8 5))] : List (Addr × List Int)) from hv68)
    exact ⟨z, hz, e.symm⟩
  have hzB : zb.2 ∈ Bents := by rw [show Bents = ([(q54, List.replicate 9 0 ++ [2] ++ be 8 5), (q58, [0, 1] ++ List.replicate 7 0 ++ ([1] ++ be 8 5)), (q62, List.replicate 9 0 ++ [1] ++ List.replicate 8 255), (q66, [1] ++ be 8 (2 ^ 61 - 1) ++ ([1] ++ be 8 5))] : List (Addr × List Int)).map (·.2) from rfl]; exact List.mem_map.mpr ⟨zb, hzb, rfl⟩
  have hbq := rowsB zb hzb
  have hbl : zb.2.length ≤ 60 := bents_len _ hzB
  clear rowsB hzb hv68
  have okB := bent_brk zb.2 hzB
  refine ⟨sz2, fun q69 n69 => ?_⟩
  have s69 : Same H68 (upd H68 q69 (.tup [.int 82, .int 9])) := Same.new n69
  have e69 : (upd H68 q69 (.tup [.int 82, .int 9])) q69 = some (.tup (([82, 9] : List Int).map V.int)) := upd_same
  generalize upd H68 q69 (.tup [.int 82, .int 9]) = H69 at s69 e69 ⊢
  have k69 : TupK H68 H69 := .of s69
  have I69 := I68.keep s69
  refine ⟨5, rfl, fun q70 H70 s70 e70 => ?_⟩
  have k70 : TupK H69 H70 := .of s70
  have I70 := I69.keep s70
  refine ⟨sz2, fun q71 n71 => ?_⟩
  have s71 : Same H70 (upd H70 q71 (.tup [.ref q69, .ref q70])) := Same.new n71
  have e71 : (upd H70 q71 (.tup [.ref q69, .ref q70])) q71 = some (.tup [.ref q69, .ref q70]) := upd_same
  generalize upd H70 q71 (.tup [.ref q69, .ref q70]) = H71 at s71 e71 ⊢
  have k71 : TupK H70 H71 := .of s71
  have I71 := I70.keep s71
  refine ⟨sz2, fun q72 n72 => ?_⟩
  have s72 : Same H71 (upd H71 q72 (.tup [.int 76, .int 9])) := Same.new n72
  have e72 : (upd H71 q72 (.tup [.int 76, .int 9])) q72 = some (.tup (([76, 9] : List Int).map V.int)) := upd_same
  generalize upd H71 q72 (.tup [.int 76, .int 9]) = H72 at s72 e72 ⊢
  have k72 : TupK H71 H72 := .of s72
  have I72 := I71.keep s72
  refine ⟨0, rfl, fun q73 H73 s73 e73 => ?_⟩
  have k73 : TupK H72 H73 := .of s73
  have I73 := I72.keep s73
  refine ⟨_, rfl, ?_⟩
  refine catA_of (xs := (be 8 0 : List Int).map V.int) (ys := (zb.2 : List Int).map V.int) e73 (k73 _ _ (k72 _ _ (k71 _ _ (k70 _ _ (k69 _ _ hbq))))) (by rw [List.length_map, List.length_map, be_length]; omega) fun q74 H74 s74 e74 => ?_
  rw [← List.map_append] at e74
  have k74 : TupK H73 H74 := .of s74
  have I74 := I73.keep s74
  refine ⟨sz2, fun q75 n75 => ?_⟩
  have s75 : Same H74 (upd H74 q75 (.tup [.ref q72, .ref q74])) := Same.new n75
  have e75 : (upd H74 q75 (.tup [.ref q72, .ref q74])) q75 = some (.tup [.ref q72, .ref q74]) := upd_same
  generalize upd H74 q75 (.tup [.ref q72, .ref q74]) = H75 at s75 e75 ⊢
  have k75 : TupK H74 H75 := .of s75
  have I75 := I74.keep s75
  refine ⟨sz2, fun q76 n76 => ?_⟩
  have s76 : Same H75 (upd H75 q76 (.tup [.ref q71, .ref q75])) := Same.new n76
  have e76 : (upd H75 q76 (.tup [.ref q71, .ref q75])) q76 = some (.tup [.ref q71, .ref q75]) := upd_same
  generalize upd H75 q76 (.tup [.ref q71, .ref q75]) = H76 at s76 e76 ⊢
  have k76 : TupK H75 H76 := .of s76
  have I76 := I75.keep s76
  refine ⟨q76, [(q71, ([82, 9], be 8 5)), (q75, ([76, 9], be 8 0 ++ zb.2))], twoI zb.2, rfl, e76, ⟨rfl, fun z hz => by
    rcases List.mem_cons.mp hz with rfl | hz
    · exact ⟨q69, q70, (k76 _ _ (k75 _ _ (k74 _ _ (k73 _ _ (k72 _ _ e71))))), (k76 _ _ (k75 _ _ (k74 _ _ (k73 _ _ (k72 _ _ (k71 _ _ (k70 _ _ e69))))))), (k76 _ _ (k75 _ _ (k74 _ _ (k73 _ _ (k72 _ _ (k71 _ _ e70))))))⟩
    rcases List.mem_cons.mp hz with rfl | hz
    · exact ⟨q72, q74, (k76 _ _ e75), (k76 _ _ (k75 _ _ (k74 _ _ (k73 _ _ e72)))), (k76 _ _ (k75 _ _ e74))⟩
    · cases hz⟩, (by show 2 ≤ 60; decide), okB.2, fun p77 H77 s77 hd77 => ?_⟩
  have k77 : TupK H76 H77 := .of s77
  have I77 := I76.keep s77
  refine ⟨sz2, fun q78 n78 => ?_⟩
  have s78 : Same H77 (upd H77 q78 (.tup [.int 76, .int 9])) := Same.new n78
  have e78 : (upd H77 q78 (.tup [.int 76, .int 9])) q78 = some (.tup (([76, 9] : List Int).map V.int)) := upd_same
  generalize upd H77 q78 (.tup [.int 76, .int 9]) = H78 at s78 e78 ⊢
  have k78 : TupK H77 H78 := .of s78
  have I78 := I77.keep s78
  refine ⟨sz2, fun q79 n79 => ?_⟩
  have s79 : Same H78 (upd H78 q79 (.tup [.str "broken", .ref q78])) := Same.new n79
  have e79 : (upd H78 q79 (.tup [.str "broken", .ref q78])) q79 = some (.tup [.str "broken", .ref q78]) := upd_same
  generalize upd H78 q79 (.tup [.str "broken", .ref q78]) = H79 at s79 e79 ⊢
  have k79 : TupK H78 H79 := .of s79
  have I79 := I78.keep s79
  refine heard_ne okB.1 (Dp.keeps (s78.trans s79) _ _ hd77) (k79 _ _ e78) e79 ⟨_, rfl, iteF ?_⟩
  refine ⟨sz1, fun q80 n80 => ?_⟩
  have s80 : Same H79 (upd H79 q80 (.tup [.int 76])) := Same.new n80
  have e80 : (upd H79 q80 (.tup [.int 76])) q80 = some (.tup (([76] : List Int).map V.int)) := upd_same
  generalize upd H79 q80 (.tup [.int 76]) = H80 at s80 e80 ⊢
  have k80 : TupK H79 H80 := .of s80
  have I80 := I79.keep s80
  refine ⟨_, rfl, ?_⟩
  refine ⟨sz0, fun q81 n81 => ?_⟩
  have s81 : Same H80 (upd H80 q81 (.tup [])) := Same.new n81
  have e81 : (upd H80 q81 (.tup [])) q81 = some (.tup (([] : List Int).map V.int)) := upd_same
  generalize upd H80 q81 (.tup []) = H81 at s81 e81 ⊢
  have k81 : TupK H80 H81 := .of s81
  have I81 := I80.keep s81
  refine ⟨sz1, fun u82 m82 => ⟨u82, 7, _, rfl, rfl, SqT.of upd_same, (by intro z; cases z), by decide, by decide, by decide, fun q82 n82 => ?_⟩⟩
  have s82 : Same H81 (upd (upd H81 u82 (.tup [.int 0])) q82 (.tup (List.replicate (Int.toNat 7) [V.int 0]).flatten)) := (Same.new m82).up n82
  have e82 : (upd (upd H81 u82 (.tup [.int 0])) q82 (.tup (List.replicate (Int.toNat 7) [V.int 0]).flatten)) q82 = some (.tup ((List.replicate 7 0 : List Int).map V.int)) := upd_same
  generalize upd (upd H81 u82 (.tup [.int 0])) q82 (.tup (List.replicate (Int.toNat 7) [V.int 0]).flatten) = H82 at s82 e82 ⊢
  have k82 : TupK H81 H82 := .of s82
  have I82 := I81.keep s82
  refine ⟨sz1, fun u83 m83 => ⟨u83, 9, _, rfl, rfl, SqT.of upd_same, (by intro z; cases z), by decide, by decide, by decide, fun q83 n83 => ?_⟩⟩
  have s83 : Same H82 (upd (upd H82 u83 (.tup [.int 0])) q83 (.tup (List.replicate (Int.toNat 9) [V.int 0]).flatten)) := (Same.new m83).up n83
  have e83 : (upd (upd H82 u83 (.tup [.int 0])) q83 (.tup (List.replicate (Int.toNat 9) [V.int 0]).flatten)) q83 = some (.tup ((List.replicate 9 0 : List Int).map V.int)) := upd_same
  generalize upd (upd H82 u83 (.tup [.int 0])) q83 (.tup (List.replicate (Int.toNat 9) [V.int 0]).flatten) = H83 at s83 e83 ⊢
  have k83 : TupK H82 H83 := .of s83
  have I83 := I82.keep s83
  refine ⟨sz3, fun q84 n84 => ?_⟩
  have s84 : Same H83 (upd H83 q84 (.lst [.ref q81, .ref q82, .ref q83])) := Same.new n84
  have e84 : (upd H83 q84 (.lst [.ref q81, .ref q82, .ref q83])) q84 = some (.lst [.ref q81, .ref q82, .ref q83]) := upd_same
  have nb84 : q84 ≠ s.b := I83.box.ne n84
  generalize upd H83 q84 (.lst [.ref q81, .ref q82, .ref q83]) = H84 at s84 e84 ⊢
  have k84 : TupK H83 H84 := .of s84
  have I84 := I83.keep s84
  refine ⟨s.b, q84, _, rfl, I84.box, SqL.of e84, nb84, (by intro z; cases z), (by show 3 < 1073741824; decide), fun v85 H85 hv85 f85 b85 => ?_⟩
  have I85 := I84.fr f85 b85
  have k85 : TupK H84 H85 := f85.tupK I84.box
  have rowsC : Rows H85 ([(q81, []), (q82, List.replicate 7 0), (q83, List.replicate 9 0)] : List (Addr × List Int)) := fun z hz => by
    rcases List.mem_cons.mp hz with rfl | hz
    · exact (k85 _ _ (k84 _ _ (k83 _ _ (k82 _ _ e81))))
    rcases List.mem_cons.mp hz with rfl | hz
    · exact (k85 _ _ (k84 _ _ (k83 _ _ e82)))
    rcases List.mem_cons.mp hz with rfl | hz
    · exact (k85 _ _ (k84 _ _ e83))
    · cases hz
  obtain ⟨zc, hzc, rfl⟩ : ∃ z ∈ ([(q81, []), (q82, List.replicate 7 0), (q83, List.replicate 9 0)] : List (Addr × List Int)), v85 = .ref z.1 := by
    obtain ⟨z, hz, e⟩ := List.mem_map.mp (show v85 ∈ refs ([(q81, []), (q82, List.replicate 7 0), (q83, List.replicate 9 0)] : List (Addr × List Int)) from hv85)
    exact ⟨z, hz, e.symm⟩
  have hzC : zc.2 ∈ ([[], List.replicate 7 0, List.replicate 9 0] : List (List Int)) := by rw [show ([[], List.replicate 7 0, List.replicate 9 0] : List (List Int)) = ([(q81, []), (q82, List.replicate 7 0), (q83, List.replicate 9 0)] : List (Addr × List Int)).map (·.2) from rfl]; exact List.mem_map.mpr ⟨zc, hzc, rfl⟩
  have hcq := rowsC zc hzc
  have okC := cnt_brk zc.2 hzC
  refine ⟨sz2, fun q86 n86 => ?_⟩
  have s86 : Same H85 (upd H85 q86 (.tup [.ref q80, .ref zc.1])) := Same.new n86
  have e86 : (upd H85 q86 (.tup [.ref q80, .ref zc.1])) q86 = some (.tup [.ref q80, .ref zc.1]) := upd_same
  generalize upd H85 q86 (.tup [.ref q80, .ref zc.1]) = H86 at s86 e86 ⊢
  have k86 : TupK H85 H86 := .of s86
  have I86 := I85.keep s86
  refine ⟨sz1, fun q87 n87 => ?_⟩
  have s87 : Same H86 (upd H86 q87 (.tup [.ref q86])) := Same.new n87
  have e87 : (upd H86 q87 (.tup [.ref q86])) q87 = some (.tup [.ref q86]) := upd_same
  generalize upd H86 q87 (.tup [.ref q86]) = H87 at s87 e87 ⊢
  have k87 : TupK H86 H87 := .of s87
  have I87 := I86.keep s87
  refine ⟨q87, [(q86, ([76], zc.2))], [([76], zc.2)], rfl, e87, ⟨rfl, fun z hz => by rw [List.mem_singleton.mp hz]; exact ⟨q80, zc.1, (k87 _ _ e86), (k87 _ _ (k86 _ _ (k85 _ _ (k84 _ _ (k83 _ _ (k82 _ _ (k81 _ _ e80))))))), (k87 _ _ (k86 _ _ hcq))⟩⟩, (by show 1 ≤ 60; decide), (fun it hit => by rw [List.mem_singleton.mp hit]; exact okC.2), fun p88 H88 s88 hd88 => ?_⟩
  have k88 : TupK H87 H88 := .of s88
  have I88 := I87.keep s88
  refine ⟨sz1, fun q89 n89 => ?_⟩
  have s89 : Same H88 (upd H88 q89 (.tup [.int 76])) := Same.new n89
  have e89 : (upd H88 q89 (.tup [.int 76])) q89 = some (.tup (([76] : List Int).map V.int)) := upd_same
  generalize upd H88 q89 (.tup [.int 76]) = H89 at s89 e89 ⊢
  have k89 : TupK H88 H89 := .of s89
  have I89 := I88.keep s89
  refine ⟨sz2, fun q90 n90 => ?_⟩
  have s90 : Same H89 (upd H89 q90 (.tup [.str "broken", .ref q89])) := Same.new n90
  have e90 : (upd H89 q90 (.tup [.str "broken", .ref q89])) q90 = some (.tup [.str "broken", .ref q89]) := upd_same
  generalize upd H89 q90 (.tup [.str "broken", .ref q89]) = H90 at s90 e90 ⊢
  have k90 : TupK H89 H90 := .of s90
  have I90 := I89.keep s90
  exact heard_ne okC.1 (Dp.keeps (s89.trans s90) _ _ hd88) (k90 _ _ e89) e90 ⟨_, rfl, iteF (k _ _ _ _ _ _ _ I90)⟩
end
end K49
namespace K49
open PySem L2
def spLaw (K : PySem.W.Frag) : Sp := fun vs H Q _ => ∃ (a : Addr) (ns : List Int), vs = [.ref a] ∧ ScL K H a (ns.map V.int) ∧ ns.length ≤ 63 ∧ ∀ H', Q (.bl true) H'
theorem mean_nil : meaning [] = .inr m0 := by
  unfold meaning
  rw [runM]
  simp only
  have : firstBad m0 = none := by
    unfold firstBad sortRows
    rw [show keysM m0 = [] from rfl, List.mergeSort_nil]
    rfl
  rw [this]
abbrev d0 : PyData := .tuple [.tuple [], .tuple [], .int 0]
theorem told0 : toldD m0 = d0 := by
  unfold toldD foundD logsD sortK
  rw [show m0.found = [] from rfl, show m0.logs = [] from rfl, List.mergeSort_nil, List.mergeSort_nil]
  rfl
theorem shaped_d0 : SeqAt.shaped d0 = true := by decide +kernel
theorem eqv_d0 : PyData.eqv d0 d0 = true := by decide +kernel
section
variable {P : Program} {w : World} {K : PySem.W.Frag} {mg : Str → Option Value} {base : Heap}
/-- refs_meaning(()) == ((), (), 0) -/
theorem none_eq {Q : VK} {H : Hp} {p : Addr} (hp : Dp K H (.ref p) (toldD m0)) {R : V → Hp → Prop} (k : ∀ H', R (.bl true) H') : ([] : List V).length ≤ sizeLine ∧ ∀ t1, H t1 = none → ([] : List V).length ≤ sizeLine ∧ ∀ t2, (upd H t1 (.tup [])) t2 = none → [V.ref t1, V.ref t2, V.int 0].length ≤ sizeLine ∧ ∀ t3, (upd (upd H t1 (.tup [])) t2 (.tup [])) t3 = none →
    rEqD K (.ref p) (.ref t3) (upd (upd (upd H t1 (.tup [])) t2 (.tup [])) t3 (.tup [.ref t1, .ref t2, .int 0])) R := by
  refine ⟨sz0, fun t1 n1 => ⟨sz0, fun t2 n2 => ⟨sz3, fun t3 n3 => ?_⟩⟩⟩
  rw [told0] at hp
  have s3 := ((Same.new n1 (o := .tup [])).up n2 (o := .tup [])).up n3 (o := .tup [.ref t1, .ref t2, .int 0])
  refine ⟨d0, d0, Dp.keeps s3 _ _ hp, .tup (SqT.of upd_same) (.cons (.tup (SqT.of (Same.at n3 (Same.at n2 upd_same))) .nil) (.cons (.tup (SqT.of (Same.at n3 upd_same)) .nil) (.cons (.int 0) .nil))), shaped_d0, shaped_d0, ?_⟩
  rw [eqv_d0]
  exact k _
theorem ok_law {f : Addr} {fd : FuncData} (F : Fun K "law" "law" sLaw f fd) (T : Top P K mg) : FnG P w K mg base CX0 11 f fd ["script"] (spLaw K) := by
  have OBx : Ok P w K mg base CX0 1 "_law_box" ["script", "k"] (spBox K) := T.oBx
  have OT : Ok P w K mg base CX0 1 "_law_take" ["box", "many"] spTake := T.oTk
  obtain ⟨fR, fdR, FR, mR, kR, bR⟩ := T.rm.ex
  have GR : FnOk P w K mg base (L2.CX P w) 9 fR fdR ["items"] (spRM K T.CB) := ok_rm FR T.rms
  have kbn := FR.kbn0 (ps := ["items"]) (ks := ["items"]) id (fun r => r) fun _ _ _ _ _ _ us hl => match us, hl with | [_], _ => rfl
  have B := T.B
  refine F.okG scL (fun vs H Q E h => ?_) (fun cdv A outer s0 H0 vs Q E hG hr h => ?_)
  · obtain ⟨a, ns, rfl, _⟩ := h
    rfl
  · obtain ⟨a, ns, rfl, hsc, hl, kq⟩ := h
    obtain ⟨t3, p3, h3⟩ := law_refs (w := w) (base := base) (f := f) (cdv := cdv) (outer := outer) (s0 := s0) (H0 := H0) (E := E) (A := A) T hG hr
    obtain ⟨t4, p4, h4⟩ := law_pop1 (w := w) (base := base) (f := f) (cdv := cdv) (outer := outer) (s0 := s0) (H0 := H0) (E := E) (A := A) T hr
    obtain ⟨t5, p5, h5⟩ := law_pop2 (w := w) (base := base) (f := f) (cdv := cdv) (outer := outer) (s0 := s0) (H0 := H0) (E := E) (A := A) T hr
    obtain ⟨to, po, ho⟩ := law_odds (w := w) (base := base) (f := f) (cdv := cdv) (outer := outer) (s0 := s0) (Hs := H0) (E := E) (A := A) T hr
    obtain ⟨ti, pi, hi⟩ := law_items (w := w) (base := base) (f := f) (cdv := cdv) (outer := outer) (s0 := s0) (H0 := H0) (E := E) (A := A) T hG hr po
    have hr9 : Room 9 (XL P w K mg base f cdv A outer s0 H0 E).A := hr.mono (by decide)
    refine ⟨_, pss_cons (ps_for PassesOwn.never rfl (i_range B pe_int) (pg_name (i := 1) scL.nd rfl (Or.inl rfl))
        (pss_cons (ps_set (i := 2) scL.nd rfl (.inl rfl) (c_fn OBx hr (pa_cons (pv 0) (pa_cons (pv 1) pa_nil))))
        (pss_cons (ps_set (i := 3) scL.nd rfl (.inl rfl) (pe_op op_add pe_int (c_fn OT hr (pa_cons (pv 2) (pa_cons pe_int pa_nil)))))
        (pss_cons (ps_asg (pe_tup (pa_cons pe_dnewT (pa_cons pe_dnewT pa_nil))) (pg_tup (by rfl) (pgs_cons (pg_name (i := 4) scL.nd rfl (.inr rfl)) (pgs_cons (pg_name (i := 5) scL.nd rfl (.inr rfl)) pgs_nil))))
        (pss_cons p3 (pss_cons p4 (pss_cons p5 pi)))))))
      (pss_one (ps_ret (pe_and (pe_cmpR (op_eqD hr.units) (pe_call GR hr9 (by rfl) mR kR bR .nil passX0 (pa_cons (pe_tup pa_nil) pa_nil)) (pe_tup (pa_cons (pe_tup pa_nil) (pa_cons (pe_tup pa_nil) (pa_cons pe_int pa_nil)))) (nomark _))
        (pe_one (pe_cmpR (op_eqD hr.units) (pe_callN0 GR hr9 (by rfl) mR kR kbn passX0 (pk_cons (pe_tup pa_nil) pk_nil)) (pe_tup (pa_cons (pe_tup pa_nil) (pa_cons (pe_tup pa_nil) (pa_cons pe_int pa_nil)))) (nomark _)))))), ?_⟩
    refine ⟨4, rfl, by decide, by decide, ?_⟩
    refine for_range (lo := 0) (n := 4) (fun i σ H' => ScL K H' a (ns.map V.int) ∧ ∃ x1 x2 x3 x4 x5 x6 x7 x8 x9 x10 x11 x12 x13 : Option V, σ = [some (.ref a), x1, x2, x3, x4, x5, x6, x7, x8, x9, x10, x11, x12, x13]) ⟨hsc, none, none, none, none, none, none, none, none, none, none, none, none, none, rfl⟩ ?_ ?_
    · rintro i σ H hi4 ⟨hs, x1, x2, x3, x4, x5, x6, x7, x8, x9, x10, x11, x12, x13, rfl⟩
      refine ⟨_, rfl, _, rfl, a, ns, i, by rw [Int.zero_add]; rfl, hs.seq, hl, fun b H1 s1 nb hb => ?_⟩
      refine ⟨_, rfl, b, 3, rfl, hb, by decide, by decide, fun d H2 e0 e1 f2 b2 => ⟨_, _, rfl, rfl, ?_⟩⟩
      have hs2 : ScL K H2 a (ns.map V.int) := (hs.keep s1).by fun o h => by
        obtain ⟨g, r, hb⟩ := hb
        exact f2 _ _ h (ne_of h hb (by intro z; cases z))
      refine fun d1 nd1 d2 nd2 => ⟨sz2, fun tp ntp => ⟨tp, _, rfl, SqT.of upd_same, rfl, _, _, rfl, _, _, rfl, rfl, ?_⟩⟩
      have hd1 := (upd_same : (upd H2 d1 (.dT [])) d1 = some (.dT []))
      have n2 : d1 ≠ d2 := ne_of_none hd1 nd2
      have s3 : Same H2 (upd (upd H2 d1 (.dT [])) d2 (.dT [])) := (Same.new nd1).up nd2
      have I3 : LI K a ns ⟨b, d1, d2, [], [], 40 + d⟩ (upd (upd H2 d1 (.dT [])) d2 (.dT [])) := ⟨hs2.keep s3, b2.keep s3, ⟨[], by rw [upd_ne n2]; exact hd1, .nil⟩, ⟨[], upd_same, .nil⟩, n2, by show 40 ≤ 40 + d; omega, by show 40 + d ≤ 42; omega, List.nil_sublist _, List.nil_sublist _, (fun e he => by cases he), (fun e he => by cases he)⟩
      exact h3 _ a ns ⟨b, d1, d2, [], [], 40 + d⟩ _ x6 x7 x8 x9 x10 x11 x12 x13 _ (I3.keep (Same.new ntp)) rfl rfl fun s4 x6 x7 H4 _ I4 =>
        h4 _ a ns s4 _ x6 x7 x8 x9 x10 x11 x12 x13 H4 I4 fun s5 H5 _ I5 =>
        h5 _ a ns s5 _ x6 x7 x8 x9 x10 x11 x12 x13 H5 I5 fun s6 H6 _ I6 =>
        hi _ a ns s6 _ x6 x7 x8 x9 x10 x11 x12 x13 H6 I6 fun x8 H7 I7 =>
        ho _ a ns s6 _ x6 x7 x8 x9 x10 x11 x12 x13 H7 I7 fun x7 x9 x10 x11 x12 x13 H8 I8 => ⟨I8.sc, _, _, _, _, _, _, _, _, _, _, _, _, _, rfl⟩
    · rintro σ H ⟨hs, x1, x2, x3, x4, x5, x6, x7, x8, x9, x10, x11, x12, x13, rfl⟩
      have m1 : ∀ k, meaning [] = .inl k → False := fun k hk => by rw [mean_nil] at hk; cases hk
      have m2 : ∀ s, meaning [] = .inr s → s = m0 := fun s hs => by rw [mean_nil] at hs; cases hs; rfl
      refine ⟨sz0, fun t nt => ⟨t, [], [], rfl, upd_same, ⟨rfl, fun z hz => by cases hz⟩, by decide, (fun it h => by cases h), (fun k hk => (m1 k hk).elim), fun s n hs _ _ p H1 s1 hD => ?_⟩⟩
      rw [m2 s hs] at hD
      refine none_eq (Q := Q) hD fun H2 => ⟨_, rfl, ?_⟩
      refine ⟨sz0, fun t nt => ⟨rfl, rfl, t, [], [], rfl, upd_same, ⟨rfl, fun z hz => by cases hz⟩, by decide, (fun it h => by cases h), (fun k hk => (m1 k hk).elim), fun s n hs _ _ p H1 s1 hD => ?_⟩⟩
      rw [m2 s hs] at hD
      exact none_eq (Q := Q) hD fun H3 => kq H3
end
end K49
namespace K49
open PySem L2
theorem law_sp {K : PySem.W.Frag} {H : Hp} {a : Addr} {ns : List Int} (hl : ns.length ≤ 63) (hO : Only H) (hS : SqL K H a (ns.map V.int)) : spLaw K [.ref a] H (fun v _ => v = .bl true) fun _ _ _ => False := by
  refine ⟨a, ns, rfl, ?_, hl, fun _ => rfl⟩
  rcases hS with (h | ⟨o, h⟩) | h
  · rcases hO a with n | ⟨ob, xs, z⟩
    · rw [n] at h; cases h
    · rw [z] at h; cases h
  · exact .inl ⟨o, h⟩
  · exact .inr h
theorem all_mk {w : World} {K : PySem.W.Frag} {h : Heap} {mg : Str → Option Value} {fa : Addr} (X : K.In h) (G : h.Ns mainGlobals mg) (hfa : mg "law" = some (.ref fa))
    {f_int : Addr} {od_int an_int : Option Addr} {sl_int : Array (Option Value)} {oc_int kV_int dc_int pm_int cd_int ct_int : Value}
    {f_num : Addr} {od_num an_num : Option Addr} {sl_num : Array (Option Value)} {oc_num kV_num dc_num pm_num cd_num ct_num : Value}
    {f_bel : Addr} {od_bel an_bel : Option Addr} {sl_bel : Array (Option Value)} {oc_bel kV_bel dc_bel pm_bel cd_bel ct_bel : Value}
    {f_isq : Addr} {od_isq an_isq : Option Addr} {sl_isq : Array (Option Value)} {oc_isq kV_isq dc_isq pm_isq cd_isq ct_isq : Value}
    {f_oct : Addr} {od_oct an_oct : Option Addr} {sl_oct : Array (Option Value)} {oc_oct kV_oct dc_oct pm_oct cd_oct ct_oct : Value}
    {f_need : Addr} {od_need an_need : Option Addr} {sl_need : Array (Option Value)} {oc_need kV_need dc_need pm_need cd_need ct_need : Value}
    {f_no : Addr} {od_no an_no : Option Addr} {sl_no : Array (Option Value)} {oc_no kV_no dc_no pm_no cd_no ct_no : Value}
    {f_on : Addr} {od_on an_on : Option Addr} {sl_on : Array (Option Value)} {oc_on kV_on dc_on pm_on cd_on ct_on : Value}
    {f_ref : Addr} {od_ref an_ref : Option Addr} {sl_ref : Array (Option Value)} {oc_ref kV_ref dc_ref pm_ref cd_ref ct_ref : Value}
    {f_pl : Addr} {od_pl an_pl : Option Addr} {sl_pl : Array (Option Value)} {oc_pl kV_pl dc_pl pm_pl cd_pl ct_pl : Value}
    {f_own : Addr} {od_own an_own : Option Addr} {sl_own : Array (Option Value)} {oc_own kV_own dc_own pm_own cd_own ct_own : Value}
    {f_po : Addr} {od_po an_po : Option Addr} {sl_po : Array (Option Value)} {oc_po kV_po dc_po pm_po cd_po ct_po : Value}
    {f_op : Addr} {od_op an_op : Option Addr} {sl_op : Array (Option Value)} {oc_op kV_op dc_op pm_op cd_op ct_op : Value}
    {f_lo : Addr} {od_lo an_lo : Option Addr} {sl_lo : Array (Option Value)} {oc_lo kV_lo dc_lo pm_lo cd_lo ct_lo : Value}
    {f_ol : Addr} {od_ol an_ol : Option Addr} {sl_ol : Array (Option Value)} {oc_ol kV_ol dc_ol pm_ol cd_ol ct_ol : Value}
    {f_lg : Addr} {od_lg an_lg : Option Addr} {sl_lg : Array (Option Value)} {oc_lg kV_lg dc_lg pm_lg cd_lg ct_lg : Value}
    {f_al : Addr} {od_al an_al : Option Addr} {sl_al : Array (Option Value)} {oc_al kV_al dc_al pm_al cd_al ct_al : Value}
    {f_rm : Addr} {od_rm an_rm : Option Addr} {sl_rm : Array (Option Value)} {oc_rm kV_rm dc_rm pm_rm cd_rm ct_rm : Value}
    {f_bx : Addr} {od_bx an_bx : Option Addr} {sl_bx : Array (Option Value)} {oc_bx kV_bx dc_bx pm_bx cd_bx ct_bx : Value}
    {f_tk : Addr} {od_tk an_tk : Option Addr} {sl_tk : Array (Option Value)} {oc_tk kV_tk dc_tk pm_tk cd_tk ct_tk : Value}
    {f_pk : Addr} {od_pk an_pk : Option Addr} {sl_pk : Array (Option Value)} {oc_pk kV_pk dc_pk pm_pk cd_pk ct_pk : Value}
    {f_nm : Addr} {od_nm an_nm : Option Addr} {sl_nm : Array (Option Value)} {oc_nm kV_nm dc_nm pm_nm cd_nm ct_nm : Value}
    {f_ll : Addr} {od_ll an_ll : Option Addr} {sl_ll : Array (Option Value)} {oc_ll kV_ll dc_ll pm_ll cd_ll ct_ll : Value}
    {f_lb : Addr} {od_lb an_lb : Option Addr} {sl_lb : Array (Option Value)} {oc_lb kV_lb dc_lb pm_lb cd_lb ct_lb : Value}
    {f_kl : Addr} {od_kl an_kl : Option Addr} {sl_kl : Array (Option Value)} {oc_kl kV_kl dc_kl pm_kl cd_kl ct_kl : Value}
    {f_ko : Addr} {od_ko an_ko : Option Addr} {sl_ko : Array (Option Value)} {oc_ko kV_ko dc_ko pm_ko cd_ko ct_ko : Value}
    {f_kd : Addr} {od_kd an_kd : Option Addr} {sl_kd : Array (Option Value)} {oc_kd kV_kd dc_kd pm_kd cd_kd ct_kd : Value}
    {f_kh : Addr} {od_kh an_kh : Option Addr} {sl_kh : Array (Option Value)} {oc_kh kV_kh dc_kh pm_kh cd_kh ct_kh : Value}
    {f_law : Addr} {od_law an_law : Option Addr} {sl_law : Array (Option Value)} {oc_law kV_law dc_law pm_law cd_law ct_law : Value}
    {t_octet : Tok}
    {t_names : Tok}
    {t_mref : Tok}
    {t_kept : Tok}
    {t_refk : Tok}
    {t_logk : Tok}
    {t_hand : Tok}
    {t_hands : Tok}
    {t_width : Tok}
    {t_part : Tok}
    {t_entry : Tok}
    {R CK fE cda cc : Addr} {nm q : Str} {N : Addr} {bs bm : List Value} {sn : List Str} {sub : List Value} {ab : Bool} {col : Option Bool} {dd : Option Addr} {m0 m1 m2 m3 m5 : Option Value}
    {nmK qK : Str} {NK : Addr} {bsK bmK : List Value} {snK : List Str} {subK : List Value} {abK : Bool} {colK : Option Bool} {ddK : Option Addr} {mK0 mK1 mK2 mK3 mK5 : Option Value}
    {ocE dcE pmE ctE : Value} {odE anE : Option Addr} {slE : Array (Option Value)} {ccl : Value} {cdd : Option Addr} {vs : Array Value} {ccs : Array (Option Value)} {file : Str} {tf : Tok} {cl : Value} {cld : Option Addr} {csl : Array (Option Value)}
    (a_int : PySem.W.nsIn K mainGlobals "is_integer" = some (some (.ref f_int)))
    (l_int : K.lookup f_int = some ⟨oc_int, od_int, .func (PySem.W.fnOf "is_integer" "is_integer" (defArgs sInt) (defBody sInt) (defScope sInt) .none kV_int dc_int pm_int an_int cd_int ct_int), sl_int⟩)
    (c_int : PySem.W.codeIn K cd_int "is_integer" = true)
    (k_int : PySem.W.keepIn K (.ref f_int) = true)
    (a_num : PySem.W.nsIn K mainGlobals "is_number" = some (some (.ref f_num)))
    (l_num : K.lookup f_num = some ⟨oc_num, od_num, .func (PySem.W.fnOf "is_number" "is_number" (defArgs sNum) (defBody sNum) (defScope sNum) .none kV_num dc_num pm_num an_num cd_num ct_num), sl_num⟩)
    (c_num : PySem.W.codeIn K cd_num "is_number" = true)
    (k_num : PySem.W.keepIn K (.ref f_num) = true)
    (a_bel : PySem.W.nsIn K mainGlobals "is_below" = some (some (.ref f_bel)))
    (l_bel : K.lookup f_bel = some ⟨oc_bel, od_bel, .func (PySem.W.fnOf "is_below" "is_below" (defArgs sBel) (defBody sBel) (defScope sBel) .none kV_bel dc_bel pm_bel an_bel cd_bel ct_bel), sl_bel⟩)
    (c_bel : PySem.W.codeIn K cd_bel "is_below" = true)
    (k_bel : PySem.W.keepIn K (.ref f_bel) = true)
    (a_isq : PySem.W.nsIn K mainGlobals "is_sequence" = some (some (.ref f_isq)))
    (l_isq : K.lookup f_isq = some ⟨oc_isq, od_isq, .func (PySem.W.fnOf "is_sequence" "is_sequence" (defArgs sIsq) (defBody sIsq) (defScope sIsq) .none kV_isq dc_isq pm_isq an_isq cd_isq ct_isq), sl_isq⟩)
    (c_isq : PySem.W.codeIn K cd_isq "is_sequence" = true)
    (k_isq : PySem.W.keepIn K (.ref f_isq) = true)
    (a_oct : PySem.W.nsIn K mainGlobals "is_octets" = some (some (.ref f_oct)))
    (l_oct : K.lookup f_oct = some ⟨oc_oct, od_oct, .func (PySem.W.fnOf "is_octets" "is_octets" (defArgs sOct) (defBody sOct) (defScope sOct) .none kV_oct dc_oct pm_oct an_oct cd_oct ct_oct), sl_oct⟩)
    (c_oct : PySem.W.codeIn K cd_oct "is_octets" = true)
    (k_oct : PySem.W.keepIn K (.ref f_oct) = true)
    (a_need : PySem.W.nsIn K mainGlobals "need_octets" = some (some (.ref f_need)))
    (l_need : K.lookup f_need = some ⟨oc_need, od_need, .func (PySem.W.fnOf "need_octets" "need_octets" (defArgs sNeed) (defBody sNeed) (defScope sNeed) .none kV_need dc_need pm_need an_need cd_need ct_need), sl_need⟩)
    (c_need : PySem.W.codeIn K cd_need "need_octets" = true)
    (k_need : PySem.W.keepIn K (.ref f_need) = true)
    (a_no : PySem.W.nsIn K mainGlobals "number_octets" = some (some (.ref f_no)))
    (l_no : K.lookup f_no = some ⟨oc_no, od_no, .func (PySem.W.fnOf "number_octets" "number_octets" (defArgs sNO) (defBody sNO) (defScope sNO) .none kV_no dc_no pm_no an_no cd_no ct_no), sl_no⟩)
    (c_no : PySem.W.codeIn K cd_no "number_octets" = true)
    (k_no : PySem.W.keepIn K (.ref f_no) = true)
    (a_on : PySem.W.nsIn K mainGlobals "octets_number" = some (some (.ref f_on)))
    (l_on : K.lookup f_on = some ⟨oc_on, od_on, .func (PySem.W.fnOf "octets_number" "octets_number" (defArgs sON) (defBody sON) (defScope sON) .none kV_on dc_on pm_on an_on cd_on ct_on), sl_on⟩)
    (c_on : PySem.W.codeIn K cd_on "octets_number" = true)
    (k_on : PySem.W.keepIn K (.ref f_on) = true)
    (a_ref : PySem.W.nsIn K mainGlobals "is_ref" = some (some (.ref f_ref)))
    (l_ref : K.lookup f_ref = some ⟨oc_ref, od_ref, .func (PySem.W.fnOf "is_ref" "is_ref" (defArgs sRef) (defBody sRef) (defScope sRef) .none kV_ref dc_ref pm_ref an_ref cd_ref ct_ref), sl_ref⟩)
    (c_ref : PySem.W.codeIn K cd_ref "is_ref" = true)
    (k_ref : PySem.W.keepIn K (.ref f_ref) = true)
    (a_pl : PySem.W.nsIn K mainGlobals "is_place" = some (some (.ref f_pl)))
    (l_pl : K.lookup f_pl = some ⟨oc_pl, od_pl, .func (PySem.W.fnOf "is_place" "is_place" (defArgs sPl) (defBody sPl) (defScope sPl) .none kV_pl dc_pl pm_pl an_pl cd_pl ct_pl), sl_pl⟩)
    (c_pl : PySem.W.codeIn K cd_pl "is_place" = true)
    (k_pl : PySem.W.keepIn K (.ref f_pl) = true)
    (a_own : PySem.W.nsIn K mainGlobals "is_own_place" = some (some (.ref f_own)))
    (l_own : K.lookup f_own = some ⟨oc_own, od_own, .func (PySem.W.fnOf "is_own_place" "is_own_place" (defArgs sOwn) (defBody sOwn) (defScope sOwn) .none kV_own dc_own pm_own an_own cd_own ct_own), sl_own⟩)
    (c_own : PySem.W.codeIn K cd_own "is_own_place" = true)
    (k_own : PySem.W.keepIn K (.ref f_own) = true)
    (a_po : PySem.W.nsIn K mainGlobals "place_octets" = some (some (.ref f_po)))
    (l_po : K.lookup f_po = some ⟨oc_po, od_po, .func (PySem.W.fnOf "place_octets" "place_octets" (defArgs sPO) (defBody sPO) (defScope sPO) .none kV_po dc_po pm_po an_po cd_po ct_po), sl_po⟩)
    (c_po : PySem.W.codeIn K cd_po "place_octets" = true)
    (k_po : PySem.W.keepIn K (.ref f_po) = true)
    (a_op : PySem.W.nsIn K mainGlobals "octets_place" = some (some (.ref f_op)))
    (l_op : K.lookup f_op = some ⟨oc_op, od_op, .func (PySem.W.fnOf "octets_place" "octets_place" (defArgs sOP) (defBody sOP) (defScope sOP) .none kV_op dc_op pm_op an_op cd_op ct_op), sl_op⟩)
    (c_op : PySem.W.codeIn K cd_op "octets_place" = true)
    (k_op : PySem.W.keepIn K (.ref f_op) = true)
    (a_lo : PySem.W.nsIn K mainGlobals "log_octets" = some (some (.ref f_lo)))
    (l_lo : K.lookup f_lo = some ⟨oc_lo, od_lo, .func (PySem.W.fnOf "log_octets" "log_octets" (defArgs sLO) (defBody sLO) (defScope sLO) .none kV_lo dc_lo pm_lo an_lo cd_lo ct_lo), sl_lo⟩)
    (c_lo : PySem.W.codeIn K cd_lo "log_octets" = true)
    (k_lo : PySem.W.keepIn K (.ref f_lo) = true)
    (a_ol : PySem.W.nsIn K mainGlobals "octets_log" = some (some (.ref f_ol)))
    (l_ol : K.lookup f_ol = some ⟨oc_ol, od_ol, .func (PySem.W.fnOf "octets_log" "octets_log" (defArgs sOL) (defBody sOL) (defScope sOL) .none kV_ol dc_ol pm_ol an_ol cd_ol ct_ol), sl_ol⟩)
    (c_ol : PySem.W.codeIn K cd_ol "octets_log" = true)
    (k_ol : PySem.W.keepIn K (.ref f_ol) = true)
    (a_lg : PySem.W.nsIn K mainGlobals "is_log" = some (some (.ref f_lg)))
    (l_lg : K.lookup f_lg = some ⟨oc_lg, od_lg, .func (PySem.W.fnOf "is_log" "is_log" (defArgs sLg) (defBody sLg) (defScope sLg) .none kV_lg dc_lg pm_lg an_lg cd_lg ct_lg), sl_lg⟩)
    (c_lg : PySem.W.codeIn K cd_lg "is_log" = true)
    (k_lg : PySem.W.keepIn K (.ref f_lg) = true)
    (a_al : PySem.W.nsIn K mainGlobals "are_log_octets" = some (some (.ref f_al)))
    (l_al : K.lookup f_al = some ⟨oc_al, od_al, .func (PySem.W.fnOf "are_log_octets" "are_log_octets" (defArgs sAL) (defBody sAL) (defScope sAL) .none kV_al dc_al pm_al an_al cd_al ct_al), sl_al⟩)
    (c_al : PySem.W.codeIn K cd_al "are_log_octets" = true)
    (k_al : PySem.W.keepIn K (.ref f_al) = true)
    (a_rm : PySem.W.nsIn K mainGlobals "refs_meaning" = some (some (.ref f_rm)))
    (l_rm : K.lookup f_rm = some ⟨oc_rm, od_rm, .func (PySem.W.fnOf "refs_meaning" "refs_meaning" (defArgs sRM) (defBody sRM) (defScope sRM) .none kV_rm dc_rm pm_rm an_rm cd_rm ct_rm), sl_rm⟩)
    (c_rm : PySem.W.codeIn K cd_rm "refs_meaning" = true)
    (k_rm : PySem.W.keepIn K (.ref f_rm) = true)
    (a_bx : PySem.W.nsIn K mainGlobals "_law_box" = some (some (.ref f_bx)))
    (l_bx : K.lookup f_bx = some ⟨oc_bx, od_bx, .func (PySem.W.fnOf "_law_box" "_law_box" (defArgs sBox) (defBody sBox) (defScope sBox) .none kV_bx dc_bx pm_bx an_bx cd_bx ct_bx), sl_bx⟩)
    (c_bx : PySem.W.codeIn K cd_bx "_law_box" = true)
    (k_bx : PySem.W.keepIn K (.ref f_bx) = true)
    (a_tk : PySem.W.nsIn K mainGlobals "_law_take" = some (some (.ref f_tk)))
    (l_tk : K.lookup f_tk = some ⟨oc_tk, od_tk, .func (PySem.W.fnOf "_law_take" "_law_take" (defArgs sTake) (defBody sTake) (defScope sTake) .none kV_tk dc_tk pm_tk an_tk cd_tk ct_tk), sl_tk⟩)
    (c_tk : PySem.W.codeIn K cd_tk "_law_take" = true)
    (k_tk : PySem.W.keepIn K (.ref f_tk) = true)
    (a_pk : PySem.W.nsIn K mainGlobals "_law_pick" = some (some (.ref f_pk)))
    (l_pk : K.lookup f_pk = some ⟨oc_pk, od_pk, .func (PySem.W.fnOf "_law_pick" "_law_pick" (defArgs sPick) (defBody sPick) (defScope sPick) .none kV_pk dc_pk pm_pk an_pk cd_pk ct_pk), sl_pk⟩)
    (c_pk : PySem.W.codeIn K cd_pk "_law_pick" = true)
    (k_pk : PySem.W.keepIn K (.ref f_pk) = true)
    (a_nm : PySem.W.nsIn K mainGlobals "_law_name" = some (some (.ref f_nm)))
    (l_nm : K.lookup f_nm = some ⟨oc_nm, od_nm, .func (PySem.W.fnOf "_law_name" "_law_name" (defArgs sNm) (defBody sNm) (defScope sNm) .none kV_nm dc_nm pm_nm an_nm cd_nm ct_nm), sl_nm⟩)
    (c_nm : PySem.W.codeIn K cd_nm "_law_name" = true)
    (k_nm : PySem.W.keepIn K (.ref f_nm) = true)
    (a_ll : PySem.W.nsIn K mainGlobals "_law_log" = some (some (.ref f_ll)))
    (l_ll : K.lookup f_ll = some ⟨oc_ll, od_ll, .func (PySem.W.fnOf "_law_log" "_law_log" (defArgs sLL) (defBody sLL) (defScope sLL) .none kV_ll dc_ll pm_ll an_ll cd_ll ct_ll), sl_ll⟩)
    (c_ll : PySem.W.codeIn K cd_ll "_law_log" = true)
    (k_ll : PySem.W.keepIn K (.ref f_ll) = true)
    (a_lb : PySem.W.nsIn K mainGlobals "_law_bent" = some (some (.ref f_lb)))
    (l_lb : K.lookup f_lb = some ⟨oc_lb, od_lb, .func (PySem.W.fnOf "_law_bent" "_law_bent" (defArgs sLB) (defBody sLB) (defScope sLB) .none kV_lb dc_lb pm_lb an_lb cd_lb ct_lb), sl_lb⟩)
    (c_lb : PySem.W.codeIn K cd_lb "_law_bent" = true)
    (k_lb : PySem.W.keepIn K (.ref f_lb) = true)
    (a_kl : PySem.W.nsIn K mainGlobals "_law_is_log" = some (some (.ref f_kl)))
    (l_kl : K.lookup f_kl = some ⟨oc_kl, od_kl, .func (PySem.W.fnOf "_law_is_log" "_law_is_log" (defArgs sKL) (defBody sKL) (defScope sKL) .none kV_kl dc_kl pm_kl an_kl cd_kl ct_kl), sl_kl⟩)
    (c_kl : PySem.W.codeIn K cd_kl "_law_is_log" = true)
    (k_kl : PySem.W.keepIn K (.ref f_kl) = true)
    (a_ko : PySem.W.nsIn K mainGlobals "_law_octets" = some (some (.ref f_ko)))
    (l_ko : K.lookup f_ko = some ⟨oc_ko, od_ko, .func (PySem.W.fnOf "_law_octets" "_law_octets" (defArgs sKO) (defBody sKO) (defScope sKO) .none kV_ko dc_ko pm_ko an_ko cd_ko ct_ko), sl_ko⟩)
    (c_ko : PySem.W.codeIn K cd_ko "_law_octets" = true)
    (k_ko : PySem.W.keepIn K (.ref f_ko) = true)
    (a_kd : PySem.W.nsIn K mainGlobals "_law_due" = some (some (.ref f_kd)))
    (l_kd : K.lookup f_kd = some ⟨oc_kd, od_kd, .func (PySem.W.fnOf "_law_due" "_law_due" (defArgs sKD) (defBody sKD) (defScope sKD) .none kV_kd dc_kd pm_kd an_kd cd_kd ct_kd), sl_kd⟩)
    (c_kd : PySem.W.codeIn K cd_kd "_law_due" = true)
    (k_kd : PySem.W.keepIn K (.ref f_kd) = true)
    (a_kh : PySem.W.nsIn K mainGlobals "_law_heard" = some (some (.ref f_kh)))
    (l_kh : K.lookup f_kh = some ⟨oc_kh, od_kh, .func (PySem.W.fnOf "_law_heard" "_law_heard" (defArgs sKH) (defBody sKH) (defScope sKH) .none kV_kh dc_kh pm_kh an_kh cd_kh ct_kh), sl_kh⟩)
    (c_kh : PySem.W.codeIn K cd_kh "_law_heard" = true)
    (k_kh : PySem.W.keepIn K (.ref f_kh) = true)
    (a_law : PySem.W.nsIn K mainGlobals "law" = some (some (.ref f_law)))
    (l_law : K.lookup f_law = some ⟨oc_law, od_law, .func (PySem.W.fnOf "law" "law" (defArgs sLaw) (defBody sLaw) (defScope sLaw) .none kV_law dc_law pm_law an_law cd_law ct_law), sl_law⟩)
    (c_law : PySem.W.codeIn K cd_law "law" = true)
    (k_law : PySem.W.keepIn K (.ref f_law) = true)
    (g_octet : PySem.W.nsIn K mainGlobals "MOST_OCTET" = some (some (.int 256 t_octet)))
    (g_names : PySem.W.nsIn K mainGlobals "NAMES" = some (some (.int 2305843009213693951 t_names)))
    (g_mref : PySem.W.nsIn K mainGlobals "MOST_REF" = some (some (.int 20 t_mref)))
    (g_kept : PySem.W.nsIn K mainGlobals "KEPT" = some (some (.int 8 t_kept)))
    (g_refk : PySem.W.nsIn K mainGlobals "REF_KEY" = some (some (.int 82 t_refk)))
    (g_logk : PySem.W.nsIn K mainGlobals "LOG_KEY" = some (some (.int 76 t_logk)))
    (g_hand : PySem.W.nsIn K mainGlobals "HAND" = some (some (.int 64 t_hand)))
    (g_hands : PySem.W.nsIn K mainGlobals "HANDS" = some (some (.int 100 t_hands)))
    (g_width : PySem.W.nsIn K mainGlobals "WIDTH" = some (some (.int 8 t_width)))
    (g_part : PySem.W.nsIn K mainGlobals "PART" = some (some (.int 9 t_part)))
    (g_entry : PySem.W.nsIn K mainGlobals "ENTRY" = some (some (.int 26 t_entry)))
    (z_len : PySem.W.nsIn K mainGlobals "len" = some none)
    (z_abs : PySem.W.nsIn K mainGlobals "abs" = some none)
    (z_int : PySem.W.nsIn K mainGlobals "int" = some none)
    (z_range : PySem.W.nsIn K mainGlobals "range" = some none)
    (z_sorted : PySem.W.nsIn K mainGlobals "sorted" = some none)
    (z_set : PySem.W.nsIn K mainGlobals "set" = some none)
    (z_list : PySem.W.nsIn K mainGlobals "list" = some none)
    (z_tuple : PySem.W.nsIn K mainGlobals "tuple" = some none)
    (z_repr : PySem.W.nsIn K mainGlobals "repr" = some none)
    (z_max : PySem.W.nsIn K mainGlobals "max" = some none)
    (z_min : PySem.W.nsIn K mainGlobals "min" = some none)
    (z_isinstance : PySem.W.nsIn K mainGlobals "isinstance" = some none)
    (z_all : PySem.W.nsIn K mainGlobals "all" = some none)
    (z_zip : PySem.W.nsIn K mainGlobals "zip" = some none)
    (z_enumerate : PySem.W.nsIn K mainGlobals "enumerate" = some none)
    (z_bool : PySem.W.nsIn K mainGlobals "bool" = some none)
    (z_dict : PySem.W.nsIn K mainGlobals "dict" = some none)
    (z_super : PySem.W.nsIn K mainGlobals "super" = some none)
    (aR : PySem.W.nsIn K mainGlobals "Broken" = some (some (.ref R)))
    (aK : PySem.W.nsIn K mainGlobals "KeepError" = some (some (.ref CK)))
    (xR : K.lookup R = some (excClassObj nm q R N bs bm true sn sub ab col dd m0 m1 m2 m3 m5 "ValueError.__new__"))
    (rv : PySem.HandSPX.refsVE bm = true)
    (xK : K.lookup CK = some (excClassObj nmK qK CK NK bsK bmK true snK subK abK colK ddK mK0 mK1 mK2 mK3 mK5 "ValueError.__new__"))
    (bmE : bm = .ref CK :: bmK)
    (fiK : PySem.W.findIn K (.ref CK) "__init__" = some (some (.builtin "ValueError.__init__")))
    (esa : PySem.W.findIn K (.ref R) "__setattr__" = some (some (.builtin "object.__setattr__")))
    (ega : PySem.W.findIn K (.ref R) "__getattribute__" = some (some (.builtin "BaseException.__getattribute__")))
    (egg : PySem.W.findIn K (.ref R) "__getattr__" = some none)
    (eno : PySem.W.findIn K (.ref R) "at" = some none)
    (eiC : PySem.W.findIn K (.ref R) "__init__" = some (some (.ref fE)))
    (etC : PySem.W.typeIn K (.ref fE) = some (.type "function"))
    (ekC : PySem.W.keepIn K (.ref R) = true)
    (eex : PySem.W.subIn K (.ref R) (.type "BaseException") = some true)
    (eve : PySem.W.subIn K (.ref R) (.type "ValueError") = some true)
    (eow : PySem.W.mroIn K R (.ref R) = some true)
    (ety : PySem.W.typeIn K (.ref R) = some (.type "type"))
    (ehd : PySem.W.hasDictIn K R = true)
    (ete : PySem.W.exmOne K (.ref R) (.ref R) = some true)
    (eop : PySem.W.nsIn K cStatics "thirdparty.any" = some none)
    (efn : K.lookup fE = some ⟨ocE, odE, .func (PySem.W.ksFn "__init__" "Broken.__init__" (PySem.KwE.eA ⟨16, 17, 16, 21⟩ ⟨16, 23, 16, 25⟩) (PySem.KwE.eB "what lies there tells nothing" ⟨⟨17, 8, 17, 13⟩, ⟨17, 8, 17, 15⟩, ⟨17, 8, 17, 24⟩, ⟨17, 25, 17, 56⟩, ⟨17, 8, 17, 57⟩, ⟨17, 8, 17, 57⟩, ⟨18, 8, 18, 12⟩, ⟨18, 8, 18, 15⟩, ⟨18, 18, 18, 20⟩, ⟨18, 8, 18, 20⟩⟩) PySem.KwE.eS .none .none dcE pmE anE (.ref cda) ctE cc), slE⟩)
    (eco : PySem.W.codeIn K (.ref cda) "Broken.__init__" = true)
    (ecl : K.lookup cda = some ⟨ccl, cdd, .fields vs, ccs⟩)
    (ev2 : vs[2]? = some (.str file tf))
    (efe : ((PySem.Challenge.rw_keptwhole_k49_what_items_of_refs_mean.prog.main.file : Str) == file) = true)
    (ecc : K.lookup cc = some ⟨cl, cld, .cell (some (.ref R)), csl⟩)
    (scl : PySem.W.isClsIn K R = true)
    (sha : PySem.W.findIn K (.ref R) "__class__" = some (some (.builtin "object.__class__")))
    (shn : PySem.W.specialIn K (.builtin "object.__class__") "__get__" = some (some (.builtin "getset_descriptor.__get__")))
    (sht : PySem.W.takesIn K (.builtin "object.__class__") = some true)
    (shm : PySem.W.mroIn K R (.type "object") = some true)
    (ckl : PySem.W.isClsIn K CK = true)
    (ckt : PySem.W.typeIn K (.ref CK) = some (.type "type"))
    (cks : PySem.W.subIn K (.ref R) (.ref CK) = some true) :
    ∃ fd : FuncData, (∀ (s : Shared) (v : Value), BindsTo s fd ⟨[v], []⟩ [("script", v)]) ∧ ∀ base : Heap, K.In base → base.Ns mainGlobals mg → FnG PySem.Challenge.rw_keptwhole_k49_what_items_of_refs_mean.prog w K mg base CX0 11 fa fd ["script"] (spLaw K) := by
  have e := hfa.symm.trans (PySem.W.mg_of X G a_law)
  cases e
  have F_int := fun_mk (st := sInt) l_int c_int k_int
  have D_int : Def K mg "is_integer" sInt ["value"] := ⟨_, _, F_int, PySem.W.mg_of X G a_int, k_int, F_int.binds (ps := ["value"]) fun _ _ _ _ _ _ us hl => match us, hl with | [_], _ => rfl⟩
  have F_num := fun_mk (st := sNum) l_num c_num k_num
  have D_num : Def K mg "is_number" sNum ["value"] := ⟨_, _, F_num, PySem.W.mg_of X G a_num, k_num, F_num.binds (ps := ["value"]) fun _ _ _ _ _ _ us hl => match us, hl with | [_], _ => rfl⟩
  have F_bel := fun_mk (st := sBel) l_bel c_bel k_bel
  have D_bel : Def K mg "is_below" sBel ["value", "most"] := ⟨_, _, F_bel, PySem.W.mg_of X G a_bel, k_bel, F_bel.binds (ps := ["value", "most"]) fun _ _ _ _ _ _ us hl => match us, hl with | [_, _], _ => rfl⟩
  have F_isq := fun_mk (st := sIsq) l_isq c_isq k_isq
  have D_isq : Def K mg "is_sequence" sIsq ["value"] := ⟨_, _, F_isq, PySem.W.mg_of X G a_isq, k_isq, F_isq.binds (ps := ["value"]) fun _ _ _ _ _ _ us hl => match us, hl with | [_], _ => rfl⟩
  have F_oct := fun_mk (st := sOct) l_oct c_oct k_oct
  have D_oct : Def K mg "is_octets" sOct ["value"] := ⟨_, _, F_oct, PySem.W.mg_of X G a_oct, k_oct, F_oct.binds (ps := ["value"]) fun _ _ _ _ _ _ us hl => match us, hl with | [_], _ => rfl⟩
  have F_need := fun_mk (st := sNeed) l_need c_need k_need
  have D_need : Def K mg "need_octets" sNeed ["value"] := ⟨_, _, F_need, PySem.W.mg_of X G a_need, k_need, F_need.binds (ps := ["value"]) fun _ _ _ _ _ _ us hl => match us, hl with | [_], _ => rfl⟩
  have F_no := fun_mk (st := sNO) l_no c_no k_no
  have D_no : Def K mg "number_octets" sNO ["number", "many"] := ⟨_, _, F_no, PySem.W.mg_of X G a_no, k_no, F_no.binds (ps := ["number", "many"]) fun _ _ _ _ _ _ us hl => match us, hl with | [_, _], _ => rfl⟩
  have F_on := fun_mk (st := sON) l_on c_on k_on
  have D_on : Def K mg "octets_number" sON ["octets"] := ⟨_, _, F_on, PySem.W.mg_of X G a_on, k_on, F_on.binds (ps := ["octets"]) fun _ _ _ _ _ _ us hl => match us, hl with | [_], _ => rfl⟩
  have F_ref := fun_mk (st := sRef) l_ref c_ref k_ref
  have D_ref : Def K mg "is_ref" sRef ["value"] := ⟨_, _, F_ref, PySem.W.mg_of X G a_ref, k_ref, F_ref.binds (ps := ["value"]) fun _ _ _ _ _ _ us hl => match us, hl with | [_], _ => rfl⟩
  have F_pl := fun_mk (st := sPl) l_pl c_pl k_pl
  have D_pl : Def K mg "is_place" sPl ["value"] := ⟨_, _, F_pl, PySem.W.mg_of X G a_pl, k_pl, F_pl.binds (ps := ["value"]) fun _ _ _ _ _ _ us hl => match us, hl with | [_], _ => rfl⟩
  have F_own := fun_mk (st := sOwn) l_own c_own k_own
  have D_own : Def K mg "is_own_place" sOwn ["ref", "place"] := ⟨_, _, F_own, PySem.W.mg_of X G a_own, k_own, F_own.binds (ps := ["ref", "place"]) fun _ _ _ _ _ _ us hl => match us, hl with | [_, _], _ => rfl⟩
  have F_po := fun_mk (st := sPO) l_po c_po k_po
  have D_po : Def K mg "place_octets" sPO ["place"] := ⟨_, _, F_po, PySem.W.mg_of X G a_po, k_po, F_po.binds (ps := ["place"]) fun _ _ _ _ _ _ us hl => match us, hl with | [_], _ => rfl⟩
  have F_op := fun_mk (st := sOP) l_op c_op k_op
  have D_op : Def K mg "octets_place" sOP ["octets"] := ⟨_, _, F_op, PySem.W.mg_of X G a_op, k_op, F_op.binds (ps := ["octets"]) fun _ _ _ _ _ _ us hl => match us, hl with | [_], _ => rfl⟩
  have F_lo := fun_mk (st := sLO) l_lo c_lo k_lo
  have D_lo : Def K mg "log_octets" sLO ["log"] := ⟨_, _, F_lo, PySem.W.mg_of X G a_lo, k_lo, F_lo.binds (ps := ["log"]) fun _ _ _ _ _ _ us hl => match us, hl with | [_], _ => rfl⟩
  have F_ol := fun_mk (st := sOL) l_ol c_ol k_ol
  have D_ol : Def K mg "octets_log" sOL ["octets"] := ⟨_, _, F_ol, PySem.W.mg_of X G a_ol, k_ol, F_ol.binds (ps := ["octets"]) fun _ _ _ _ _ _ us hl => match us, hl with | [_], _ => rfl⟩
  have F_lg := fun_mk (st := sLg) l_lg c_lg k_lg
  have D_lg : Def K mg "is_log" sLg ["log", "now", "count"] := ⟨_, _, F_lg, PySem.W.mg_of X G a_lg, k_lg, F_lg.binds (ps := ["log", "now", "count"]) fun _ _ _ _ _ _ us hl => match us, hl with | [_, _, _], _ => rfl⟩
  have F_al := fun_mk (st := sAL) l_al c_al k_al
  have D_al : Def K mg "are_log_octets" sAL ["value"] := ⟨_, _, F_al, PySem.W.mg_of X G a_al, k_al, F_al.binds (ps := ["value"]) fun _ _ _ _ _ _ us hl => match us, hl with | [_], _ => rfl⟩
  have F_rm := fun_mk (st := sRM) l_rm c_rm k_rm
  have D_rm : Def K mg "refs_meaning" sRM ["items"] := ⟨_, _, F_rm, PySem.W.mg_of X G a_rm, k_rm, F_rm.binds (ps := ["items"]) fun _ _ _ _ _ _ us hl => match us, hl with | [_], _ => rfl⟩
  have F_bx := fun_mk (st := sBox) l_bx c_bx k_bx
  have D_bx : Def K mg "_law_box" sBox ["script", "k"] := ⟨_, _, F_bx, PySem.W.mg_of X G a_bx, k_bx, F_bx.binds (ps := ["script", "k"]) fun _ _ _ _ _ _ us hl => match us, hl with | [_, _], _ => rfl⟩
  have F_tk := fun_mk (st := sTake) l_tk c_tk k_tk
  have D_tk : Def K mg "_law_take" sTake ["box", "many"] := ⟨_, _, F_tk, PySem.W.mg_of X G a_tk, k_tk, F_tk.binds (ps := ["box", "many"]) fun _ _ _ _ _ _ us hl => match us, hl with | [_, _], _ => rfl⟩
  have F_pk := fun_mk (st := sPick) l_pk c_pk k_pk
  have D_pk : Def K mg "_law_pick" sPick ["box", "some"] := ⟨_, _, F_pk, PySem.W.mg_of X G a_pk, k_pk, F_pk.binds (ps := ["box", "some"]) fun _ _ _ _ _ _ us hl => match us, hl with | [_, _], _ => rfl⟩
  have F_nm := fun_mk (st := sNm) l_nm c_nm k_nm
  have D_nm : Def K mg "_law_name" sNm ["name"] := ⟨_, _, F_nm, PySem.W.mg_of X G a_nm, k_nm, F_nm.binds (ps := ["name"]) fun _ _ _ _ _ _ us hl => match us, hl with | [_], _ => rfl⟩
  have F_ll := fun_mk (st := sLL) l_ll c_ll k_ll
  have D_ll : Def K mg "_law_log" sLL ["box", "now", "most"] := ⟨_, _, F_ll, PySem.W.mg_of X G a_ll, k_ll, F_ll.binds (ps := ["box", "now", "most"]) fun _ _ _ _ _ _ us hl => match us, hl with | [_, _, _], _ => rfl⟩
  have F_lb := fun_mk (st := sLB) l_lb c_lb k_lb
  have D_lb : Def K mg "_law_bent" sLB ["box", "log", "count"] := ⟨_, _, F_lb, PySem.W.mg_of X G a_lb, k_lb, F_lb.binds (ps := ["box", "log", "count"]) fun _ _ _ _ _ _ us hl => match us, hl with | [_, _, _], _ => rfl⟩
  have F_kl := fun_mk (st := sKL) l_kl c_kl k_kl
  have D_kl : Def K mg "_law_is_log" sKL ["log", "now", "count"] := ⟨_, _, F_kl, PySem.W.mg_of X G a_kl, k_kl, F_kl.binds (ps := ["log", "now", "count"]) fun _ _ _ _ _ _ us hl => match us, hl with | [_, _, _], _ => rfl⟩
  have F_ko := fun_mk (st := sKO) l_ko c_ko k_ko
  have D_ko : Def K mg "_law_octets" sKO ["log"] := ⟨_, _, F_ko, PySem.W.mg_of X G a_ko, k_ko, F_ko.binds (ps := ["log"]) fun _ _ _ _ _ _ us hl => match us, hl with | [_], _ => rfl⟩
  have F_kd := fun_mk (st := sKD) l_kd c_kd k_kd
  have D_kd : Def K mg "_law_due" sKD ["pairs", "logs", "count"] := ⟨_, _, F_kd, PySem.W.mg_of X G a_kd, k_kd, F_kd.binds (ps := ["pairs", "logs", "count"]) fun _ _ _ _ _ _ us hl => match us, hl with | [_, _, _], _ => rfl⟩
  have F_kh := fun_mk (st := sKH) l_kh c_kh k_kh
  have D_kh : Def K mg "_law_heard" sKH ["items"] := ⟨_, _, F_kh, PySem.W.mg_of X G a_kh, k_kh, F_kh.binds (ps := ["items"]) fun _ _ _ _ _ _ us hl => match us, hl with | [_], _ => rfl⟩
  have F_law := fun_mk (st := sLaw) l_law c_law k_law
  have B : Blt mg := ⟨PySem.W.mg_none_of X G z_len, PySem.W.mg_none_of X G z_abs, PySem.W.mg_none_of X G z_int, PySem.W.mg_none_of X G z_range, PySem.W.mg_none_of X G z_sorted, PySem.W.mg_none_of X G z_set, PySem.W.mg_none_of X G z_list, PySem.W.mg_none_of X G z_tuple, PySem.W.mg_none_of X G z_repr, PySem.W.mg_none_of X G z_max, PySem.W.mg_none_of X G z_min, PySem.W.mg_none_of X G z_isinstance, PySem.W.mg_none_of X G z_all⟩
  have Cs : Cst mg := { octet := ⟨_, PySem.W.mg_of X G g_octet, ⟨t_octet, rfl⟩⟩, names := ⟨_, PySem.W.mg_of X G g_names, ⟨t_names, rfl⟩⟩, mref := ⟨_, PySem.W.mg_of X G g_mref, ⟨t_mref, rfl⟩⟩, kept := ⟨_, PySem.W.mg_of X G g_kept, ⟨t_kept, rfl⟩⟩, refk := ⟨_, PySem.W.mg_of X G g_refk, ⟨t_refk, rfl⟩⟩, logk := ⟨_, PySem.W.mg_of X G g_logk, ⟨t_logk, rfl⟩⟩, hand := ⟨_, PySem.W.mg_of X G g_hand, ⟨t_hand, rfl⟩⟩, hands := ⟨_, PySem.W.mg_of X G g_hands, ⟨t_hands, rfl⟩⟩, width := ⟨_, PySem.W.mg_of X G g_width, ⟨t_width, rfl⟩⟩, part := ⟨_, PySem.W.mg_of X G g_part, ⟨t_part, rfl⟩⟩, entry := ⟨_, PySem.W.mg_of X G g_entry, ⟨t_entry, rfl⟩⟩ }
  have al : PySem.W.alongIn K "__init__" bm = some (some (.builtin "ValueError.__init__")) := by
    have h1 : PySem.W.findIn K (.ref CK) "__init__" = (match K.lookup CK with
      | some ⟨_, _, .cls cd, _⟩ => PySem.W.alongIn K "__init__" cd.mro
      | _ => none) := rfl
    rw [xK] at h1
    rw [bmE, ← fiK, h1]
  have skt : PySem.W.kitOne K (.ref R) (.ref CK) = some true := by
    unfold PySem.W.kitOne
    split
    · rfl
    · show (if ((PySem.W.clsIn K CK).isSome && PySem.W.typeIn K (.ref CK) == some (.type "type")) = true then PySem.W.subIn K (.ref R) (.ref CK) else none) = some true
      rw [show (PySem.W.clsIn K CK).isSome = true from ckl, ckt, if_pos (by rfl)]
      exact cks
  have Rt : PySem.KwE.ErrTxt PySem.Challenge.rw_keptwhole_k49_what_items_of_refs_mean.prog K mg "Broken" R fE := { gC := PySem.W.mg_of X G aR, gS := PySem.W.mg_none_of X G z_super, cls := ⟨nm, q, N, bs, bm, sn, sub, ab, col, dd, m0, m1, m2, m3, m5, xR, rv, al⟩, sa := esa, ga := ega, gg := egg, noN := eno, iC := eiC, tC := etC, kC := ekC, exC := eex, veC := eve, ownC := eow, tyC := ety, hdC := ehd, te := ete, op := eop, top := by decide +kernel, fn := ⟨_, _, _, _, _, _, _, _, _, _, _, _, _, _, efn, eco, rfl, ⟨_, _, _, _, _, _, ecl, ev2, efe⟩, ⟨_, _, _, ecc⟩⟩ }
  have S0 : ErrIs K R := ⟨scl, sha, shn, sht, shm⟩
  have Tp : Top PySem.Challenge.rw_keptwhole_k49_what_items_of_refs_mean.prog K mg := { CB := R, CK := CK, fI := fE, B := B, C := Cs, zip := PySem.W.mg_none_of X G z_zip, en := PySem.W.mg_none_of X G z_enumerate, bool := PySem.W.mg_none_of X G z_bool, dict := PySem.W.mg_none_of X G z_dict, R := Rt, S := S0, mK := PySem.W.mg_of X G aK, kit := skt, int := D_int, num := D_num, bel := D_bel, isq := D_isq, oct := D_oct, need := D_need, no := D_no, on := D_on, ref := D_ref, pl := D_pl, own := D_own, po := D_po, op := D_op, lo := D_lo, ol := D_ol, lg := D_lg, al := D_al, rm := D_rm, bx := D_bx, tk := D_tk, pk := D_pk, nm := D_nm, ll := D_ll, lb := D_lb, kl := D_kl, ko := D_ko, kd := D_kd, kh := D_kh }
  exact ⟨_, fun s v => .of_eq rfl, fun base _ _ => ok_law F_law Tp⟩
end K49
open PySem PySem.W PyProof.Rows
set_option maxRecDepth 100000 in
set_option maxHeartbeats 0 in
theorem PySem.Challenge.cw_keptwhole_k49_what_items_of_refs_mean_holds : PySem.Challenge.rw_keptwhole_k49_what_items_of_refs_mean.Holds := by
  w_on; o_law; k_head; (case hw => w_witness2)
  k_fill
  refine L2.walk_ofG (l := PySem.Challenge.rw_keptwhole_k49_what_items_of_refs_mean) (n := 63) (k := 11) (x := "script") (sp := fun w => K49.spLaw _) rfl (by decide) rfl ⟨rfl, by decide, by decide⟩ (fun w h Y => PySem.W.kIn_of Y) ?F (fun _ _ _ _ => K49.law_sp)
  case F =>
    intro w mg fa h KX G hmg
    refine' K49.all_mk KX G hmg ?a_int ?l_int ?c_int ?k_int ?a_num ?l_num ?c_num ?k_num ?a_bel ?l_bel ?c_bel ?k_bel ?a_isq ?l_isq ?c_isq ?k_isq ?a_oct ?l_oct ?c_oct ?k_oct ?a_need ?l_need ?c_need ?k_need ?a_no ?l_no ?c_no ?k_no ?a_on ?l_on ?c_on ?k_on ?a_ref ?l_ref ?c_ref ?k_ref ?a_pl ?l_pl ?c_pl ?k_pl ?a_own ?l_own ?c_own ?k_own ?a_po ?l_po ?c_po ?k_po ?a_op ?l_op ?c_op ?k_op ?a_lo ?l_lo ?c_lo ?k_lo ?a_ol ?l_ol ?c_ol ?k_ol ?a_lg ?l_lg ?c_lg ?k_lg ?a_al ?l_al ?c_al ?k_al ?a_rm ?l_rm ?c_rm ?k_rm ?a_bx ?l_bx ?c_bx ?k_bx ?a_tk ?l_tk ?c_tk ?k_tk ?a_pk ?l_pk ?c_pk ?k_pk ?a_nm ?l_nm ?c_nm ?k_nm ?a_ll ?l_ll ?c_ll ?k_ll ?a_lb ?l_lb ?c_lb ?k_lb ?a_kl ?l_kl ?c_kl ?k_kl ?a_ko ?l_ko ?c_ko ?k_ko ?a_kd ?l_kd ?c_kd ?k_kd ?a_kh ?l_kh ?c_kh ?k_kh ?a_law ?l_law ?c_law ?k_law ?g_octet ?g_names ?g_mref ?g_kept ?g_refk ?g_logk ?g_hand ?g_hands ?g_width ?g_part ?g_entry ?z_len ?z_abs ?z_int ?z_range ?z_sorted ?z_set ?z_list ?z_tuple ?z_repr ?z_max ?z_min ?z_isinstance ?z_all ?z_zip ?z_enumerate ?z_bool ?z_dict ?z_super ?aR ?aK ?xR ?rv ?xK ?bmE ?fiK ?esa ?ega ?egg ?eno ?eiC ?etC ?ekC ?eex ?eve ?eow ?ety ?ehd ?ete ?eop ?efn ?eco ?ecl ?ev2 ?efe ?ecc ?scl ?sha ?shn ?sht ?shm ?ckl ?ckt ?cks
    (case a_int => k_is)
    (case l_int => k_is)
    (case c_int => k_is)
    (case k_int => k_is)
    (case a_num => k_is)
    (case l_num => k_is)
    (case c_num => k_is)
    (case k_num => k_is)
    (case a_bel => k_is)
    (case l_bel => k_is)
    (case c_bel => k_is)
    (case k_bel => k_is)
    (case a_isq => k_is)
    (case l_isq => k_is)
    (case c_isq => k_is)
    (case k_isq => k_is)
    (case a_oct => k_is)
    (case l_oct => k_is)
    (case c_oct => k_is)
    (case k_oct => k_is)
    (case a_need => k_is)
    (case l_need => k_is)
    (case c_need => k_is)
    (case k_need => k_is)
    (case a_no => k_is)
    (case l_no => k_is)
    (case c_no => k_is)
    (case k_no => k_is)
    (case a_on => k_is)
    (case l_on => k_is)
    (case c_on => k_is)
    (case k_on => k_is)
    (case a_ref => k_is)
    (case l_ref => k_is)
    (case c_ref => k_is)
    (case k_ref => k_is)
    (case a_pl => k_is)
    (case l_pl => k_is)
    (case c_pl => k_is)
    (case k_pl => k_is)
    (case a_own => k_is)
    (case l_own => k_is)
    (case c_own => k_is)
    (case k_own => k_is)
    (case a_po => k_is)
    (case l_po => k_is)
    (case c_po => k_is)
    (case k_po => k_is)
    (case a_op => k_is)
    (case l_op => k_is)
    (case c_op => k_is)
    (case k_op => k_is)
    (case a_lo => k_is)
    (case l_lo => k_is)
    (case c_lo => k_is)
    (case k_lo => k_is)
    (case a_ol => k_is)
    (case l_ol => k_is)
    (case c_ol => k_is)
    (case k_ol => k_is)
    (case a_lg => k_is)
    (case l_lg => k_is)
    (case c_lg => k_is)
    (case k_lg => k_is)
    (case a_al => k_is)
    (case l_al => k_is)
    (case c_al => k_is)
    (case k_al => k_is)
    (case a_rm => k_is)
    (case l_rm => k_is)
    (case c_rm => k_is)
    (case k_rm => k_is)
    (case a_bx => k_is)
    (case l_bx => k_is)
    (case c_bx => k_is)
    (case k_bx => k_is)
    (case a_tk => k_is)
    (case l_tk => k_is)
    (case c_tk => k_is)
    (case k_tk => k_is)
    (case a_pk => k_is)
    (case l_pk => k_is)
    (case c_pk => k_is)
    (case k_pk => k_is)
    (case a_nm => k_is)
    (case l_nm => k_is)
    (case c_nm => k_is)
    (case k_nm => k_is)
    (case a_ll => k_is)
    (case l_ll => k_is)
    (case c_ll => k_is)
    (case k_ll => k_is)
    (case a_lb => k_is)
    (case l_lb => k_is)
    (case c_lb => k_is)
    (case k_lb => k_is)
    (case a_kl => k_is)
    (case l_kl => k_is)
    (case c_kl => k_is)
    (case k_kl => k_is)
    (case a_ko => k_is)
    (case l_ko => k_is)
    (case c_ko => k_is)
    (case k_ko => k_is)
    (case a_kd => k_is)
    (case l_kd => k_is)
    (case c_kd => k_is)
    (case k_kd => k_is)
    (case a_kh => k_is)
    (case l_kh => k_is)
    (case c_kh => k_is)
    (case k_kh => k_is)
    (case a_law => k_is)
    (case l_law => k_is)
    (case c_law => k_is)
    (case k_law => k_is)
    (case g_octet => k_is)
    (case g_names => k_is)
    (case g_mref => k_is)
    (case g_kept => k_is)
    (case g_refk => k_is)
    (case g_logk => k_is)
    (case g_hand => k_is)
    (case g_hands => k_is)
    (case g_width => k_is)
    (case g_part => k_is)
    (case g_entry => k_is)
    (case z_len => k_is)
    (case z_abs => k_is)
    (case z_int => k_is)
    (case z_range => k_is)
    (case z_sorted => k_is)
    (case z_set => k_is)
    (case z_list => k_is)
    (case z_tuple => k_is)
    (case z_repr => k_is)
    (case z_max => k_is)
    (case z_min => k_is)
    (case z_isinstance => k_is)
    (case z_all => k_is)
    (case z_zip => k_is)
    (case z_enumerate => k_is)
    (case z_bool => k_is)
    (case z_dict => k_is)
    (case z_super => k_is)
    (case aR => k_is)
    (case aK => k_is)
    (case xR => k_is)
    (case rv => first | rfl | decide +kernel | k_is)
    (case xK => k_is)
    (case bmE => rfl)
    (case fiK => k_is)
    (case esa => k_is)
    (case ega => k_is)
    (case egg => k_is)
    (case eno => k_is)
    (case eiC => k_is)
    (case etC => k_is)
    (case ekC => k_is)
    (case eex => k_is)
    (case eve => k_is)
    (case eow => first | rfl | k_is)
    (case ety => k_is)
    (case ehd => k_is)
    (case ete => first | rfl | k_is)
    (case eop => k_is)
    (case efn => k_is)
    (case eco => k_is)
    (case ecl => k_is)
    (case ev2 => first | rfl | k_is)
    (case efe => first | rfl | decide +kernel | k_is)
    (case ecc => k_is)
    (case scl => k_is)
    (case sha => k_is)
    (case shn => k_is)
    (case sht => k_is)
    (case shm => k_is)
    (case ckl => first | rfl | k_is)
    (case ckt => k_is)
    (case cks => first | rfl | k_is)
