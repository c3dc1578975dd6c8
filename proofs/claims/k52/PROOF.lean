import PyProof.Rows.All
import Wide.All
import OpenK.AllK
import Wide.FinOn
import PyProof.EqAt
import PyProof.EqKinds
import PyProof.TupleCall
import KE.KExcSuper
import HandS.ForMost
import HandS.Exc
import HandS.ExcOwn
import HandS.TryOnly
import HandS.ExcSuper
import KE.KIsAll
import KE.KTryMore
import KE.KExcIs
import HandS.Set
import HandS.Strs
import HandS.SetFor
import KE.KSuperObj
import PyProof.ReprRoads
import HandS.WordsExc
import HandS.Defaults
import HandS.DictComp
import HandS.Walk
import HandS.More
import HandS.TupSets
import HandS.SortInts
import HandS.IsInst
import KE.KEqDict
import PyProof.ReprBulk
import HandS.Style
import HandS.AnyAll
import PySem.Challenge.RW_keptwhole_k52_whole_marks_amid_other_dee
import HandS.Small
set_option Elab.async false
set_option linter.all false
set_option maxRecDepth 100000
set_option maxHeartbeats 4000000
/-! Errors of the package: class X(KeepError) with __init__(self, f): super().__init__(msg); self.f = f. One theory for all of them (KeepError is a ValueError). -/
namespace PySem
namespace KwE
open PySem.W PySem.Calls PyProof.Rows PySem.HandSPX

/-! ### the text of such an __init__ -/
abbrev f : Str := "at"
def eA (p1 p2 : Pos) : Arguments :=
  { posonlyargs := [], args := [{ arg := "self", annotation := none, pos := p1 }, { arg := f, annotation := none, pos := p2 }], vararg := none, kwonlyargs := [], kw_defaults := [], kwarg := none, defaults := [] }
structure EPos where
  a1 : Pos
  a2 : Pos
  a3 : Pos
  a4 : Pos
  a5 : Pos
  a6 : Pos
  b1 : Pos
  b2 : Pos
  b3 : Pos
  b4 : Pos
def eB (msg : Str) (q : EPos) : List Stmt :=
  [.Expr (.Call (.Attribute (.Call (.Name "super" q.a1) [] [] q.a2) "__init__" q.a3) [.Constant (.str msg) 0 q.a4] [] q.a5) q.a6,
   .Assign [.Attribute (.Name "self" q.b1) f q.b2] (.Name f q.b3) q.b4]
def eS : Scope :=
  { kind := .function, names := [(PySem.Str.ofString "self", .local), (PySem.Str.ofString "at", .local), (PySem.Str.ofString "__class__", .free), (PySem.Str.ofString "super", .globalImplicit)], isGenerator := false, isCoroutine := false, more := [] }

/-- what the written part says of the error x at C, of its field f, of its __init__ at fI -/
structure ErrTxt (P : Program) (K : Frag) (mg : Str → Option Value) (x : Str) (C fI : Addr) : Prop where
  gC : mg x = some (.ref C)
  gS : mg "super" = none
  cls : ∃ nm q N bs bm sn sub ab col dd k0 k1 k2 k3 k5, K.lookup C = some (excClassObj nm q C N bs bm true sn sub ab col dd k0 k1 k2 k3 k5 "ValueError.__new__") ∧ refsVE bm = true ∧ alongIn K "__init__" bm = some (some (.builtin "ValueError.__init__"))
  sa : findIn K (.ref C) "__setattr__" = some (some (.builtin "object.__setattr__"))
  ga : findIn K (.ref C) "__getattribute__" = some (some (.builtin "BaseException.__getattribute__"))
  gg : findIn K (.ref C) "__getattr__" = some none
  noN : findIn K (.ref C) f = some none
  iC : findIn K (.ref C) "__init__" = some (some (.ref fI))
  tC : typeIn K (.ref fI) = some (.type "function")
  kC : keepIn K (.ref C) = true
  exC : subIn K (.ref C) (.type "BaseException") = some true
  veC : subIn K (.ref C) (.type "ValueError") = some true
  ownC : mroIn K C (.ref C) = some true
  tyC : typeIn K (.ref C) = some (.type "type")
  hdC : hasDictIn K C = true
  te : exmOne K (.ref C) (.ref C) = some true
  op : nsIn K cStatics "thirdparty.any" = some none
  top : (P.main.scope.names.lookup ("super" : Str)).isSome = false
  fn : ∃ (oc : Value) (od : Option Addr) (doc pm : Value) (an : Option Addr) (cda cc : Addr) (ct : Value) (osl : Array (Option Value)) (p1 p2 : Pos) (q : EPos) (msg qual : Str),
    K.lookup fI = some ⟨oc, od, .func (ksFn "__init__" qual (eA p1 p2) (eB msg q) eS .none .none doc pm an (.ref cda) ct cc), osl⟩ ∧ codeIn K (.ref cda) qual = true ∧
    (q.a3.endLine == q.a5.line) = true ∧ (∃ ccl cdd vs ccs file tf, K.lookup cda = some ⟨ccl, cdd, .fields vs, ccs⟩ ∧ vs[2]? = some (.str file tf) ∧ ((P.main.file : Str) == file) = true) ∧
    ∃ cl cld csl, K.lookup cc = some ⟨cl, cld, .cell (some (.ref C)), csl⟩

theorem one_size (v : Value) : [v].length ≤ sizeLine := by
  rw [sizeLine_eq]
  exact (by decide : 1 ≤ 16777216)
/-- what __init__ leaves of a fresh exception at x -/
structure InitEnd (h h' : Heap) (x C dx t1 : Addr) (v : Value) : Prop where
  keep : ∀ b o, b ≠ x → h.get? b = some o → h'.get? b = some o
  obj : h'.get? x = some { cls := .ref C, dict := some dx, data := .fields #[.ref t1, .none, .none, .none, .bool false, .none] }
  dbig : h.objs.size ≤ dx
  dne : dx ≠ x
  ns : h'.Ns1 dx (fun y => if y = f then some v else none)
/-- a made error -/
structure OwnMade (h h' : Heap) (e C d : Addr) (v : Value) : Prop where
  keep : ∀ b o, h.get? b = some o → h'.get? b = some o
  new : h.objs.size ≤ e
  obj : ∃ oe vs, h'.get? e = some oe ∧ oe.cls = .ref C ∧ oe.dict = some d ∧ oe.data = .fields vs ∧ vs[1]? = some .none
  dbig : h.objs.size ≤ d
  dne : d ≠ e
  ns : h'.Ns1 d (fun y => if y = f then some v else none)

section
variable {prog : Program} {w : World} {M : Model} {A : Around} {E : Value → Shared → Prop} {R : Result → Shared → Prop} {s : Shared} {K : Frag} {mg : Str → Option Value} {x : Str} {C fI : Addr}
theorem ldX {env : Env} {m : Str → Option Value} {y : Str} {pos : Pos} {v : Value} {Q : Value → Shared → Prop} (hn : s.heap.Ns env.locals m) (hv : m y = some v) (h : Q v s)
    (hk : env.scope.kind = .function) (hl : env.kindOf y = some .local) (hd : (y == ("__debug__" : Str)) = false) : wpAny M A (eval (.Name y pos) env) Q E s :=
  wpAny_Name (wpAny_loadName_local hk hl hn hv h) hd

theorem one_line {o : Expr} {name msg : Str} {apos pos p : Pos} {env : Env} (hp : (apos.endLine == pos.line) = true) :
    eval (.Call (.Attribute o name apos) [.Constant (.str msg) 0 p] [] pos) env = (do
      let ov ← attributeBase o name env (eval o env)
      standAt apos.atName
      let (f, first) ← holding [ov] (getMethod ov name (do return (← importBound o env).getD true))
      callWith pos f first (backTo pos (starEach [.Constant (.str msg) 0 p] env)) []) := by
  have e : methodCallPos true o env apos pos = pure pos := by
    unfold methodCallPos
    rw [hp]
    rfl
  show (do
      let ov ← attributeBase o name env (eval o env)
      standAt apos.atName
      methodCall o name apos pos env ov 1 (backTo pos (starEach [.Constant (.str msg) 0 p] env)) []) = _
  have m : ∀ ov, methodCall o name apos pos env ov 1 (backTo pos (starEach [.Constant (.str msg) 0 p] env)) [] = (do
      let (f, first) ← holding [ov] (getMethod ov name (do return (← importBound o env).getD true))
      callWith pos f first (backTo pos (starEach [.Constant (.str msg) 0 p] env)) []) := fun ov => by
    show (do
      let (f, first) ← holding [ov] (getMethod ov name (do return (← importBound o env).getD true))
      let callPos ← methodCallPos true o env apos pos
      callWith callPos f first (backTo pos (starEach [.Constant (.str msg) 0 p] env)) []) = _
    rw [e]
    simp only [pure_bind]
  simp only [m]

/-- the bound built-in __init__ called on a fresh exception -/
theorem call_mw {hp : Heap} {g : Array GenState} {d : Drawn} {t : Nat} {os : OsState} {u y t0 : Addr} {rest : List Value} {Q : Value → Shared → Prop}
    {nm q : Str} {N : Addr} {bs bm : List Value} {sn : List Str} {sub : List Value} {ab : Bool} {col : Option Bool} {dd : Option Addr} {k0 k1 k2 k3 k5 : Option Value}
    (hC : hp.get? C = some (excClassObj nm q C N bs bm true sn sub ab col dd k0 k1 k2 k3 k5 "ValueError.__new__")) (hu : hp.get? u = some (kxs_mw "ValueError.__init__" y))
    (he : hp.get? y = some (excO C t0)) (hz : rest.length ≤ sizeLine)
    (h : ∀ h' t1, (∀ b o, b ≠ y → hp.get? b = some o → h'.get? b = some o) → h'.get? y = some (excO C t1) → Q .none ⟨h', g, d, t, os⟩) :
    wpAny (model prog w) A (call (.ref u) rest) Q E ⟨hp, g, d, t, os⟩ := by
  refine wpAny_call (codeAny_of_tree ?_)
  show wpAny _ A.in1 (callAny (.ref u) ⟨rest, []⟩) _ _ _
  simp only [callAny]
  refine wpAny_bind (wpAny_load hu ?_)
  simp only [kxs_mw, show (Value.type "method-wrapper" == Value.type "method" || Value.type "method-wrapper" == Value.type "builtin_function_or_method" || Value.type "method-wrapper" == Value.type "method-wrapper") = true by decide, if_true]
  refine KFB.if_so (by decide) ?_
  refine wpAny_bind (check_bound_init F.excBase_ValueError.toExcCallFacts hC he rfl ?_)
  refine wpAny_bind (wpAny_pure (wpAny_pure ?_))
  refine ⟨plainId_quiet F.excBase_ValueError.init.plain _, codeAny_builtin F.excBase_ValueError.initEntry ?_⟩
  exact exc_init_tree (cls := .ref C) (t0 := t0) (dv := none) (c2 := .none) (c3 := .none) (b4 := .bool false) he hz fun h' k e' _ => h h' _ k e'

theorem eS_self : eS.names.lookup ("self" : Str) = some .local := by decide +kernel
theorem eS_f : eS.names.lookup f = some .local := by decide +kernel
theorem eS_class : eS.names.lookup ("__class__" : Str) = some .free := by decide +kernel
theorem eS_super : eS.names.lookup ("super" : Str) = some .globalImplicit := by decide +kernel

theorem err_init (T : ErrTxt prog K mg x C fI) {y t0 : Addr} {v : Value} (X : K.In s.heap) (hlim : s.heap.NoLimit) (hns : s.heap.Ns mainGlobals mg) {mb : Str → Option Value} (hb : s.heap.Ns builtinsNs mb) (hbs : mb "super" = some (.type "super"))
    (hx : s.heap.get? y = some (excO C t0)) (hnx : K.lookup y = none) (hroom : A.depth < recursionLimit)
    (hq : ∀ h' tk dx t1, InitEnd s.heap h' y C dx t1 v → R (.ok (.ret .none)) { s with heap := h', toks := tk }) :
    codeAny (model prog w) A (.call (.ref fI) ⟨[.ref y, v], []⟩) R s := by
  obtain ⟨oc, od, doc, pm, an, cda, cc, ct, osl, p1, p2, q, msg, qual, ho, hcd, hpos, ⟨ccl, cdd, vs, ccs, file, tf, hcode, hvs, hfile⟩, ⟨cl, cld, csl, hcell⟩⟩ := T.fn
  obtain ⟨nm, qn, N, bs, bm, sn, sub, ab, col, dd, k0, k1, k2, k3, k5, hC, hbm, hal⟩ := T.cls
  have hcl : clsIn K C = some { name := nm, bases := bs, mro := .ref C :: bm, ns := N, qualname := qn, hasDict := true, slotNames := sn, subclasses := sub, abstract := ab, collection := col, hasDel := false } := by unfold clsIn; rw [hC] <;> rfl
  have lself := eS_self
  have lf := eS_f
  have lcl := eS_class
  have lsu := eS_super
  refine ks_codeAny_call_defAt (fd := ksFn "__init__" qual (eA p1 p2) (eB msg q) eS .none .none doc pm an (.ref cda) ct cc) (body := eB msg q) (binds := [("self", .ref y), (f, v)]) hroom (X _ _ ho) rfl hlim (codeRec_of X hcd) rfl (BindsTo.of_eq (by first | rfl | with_unfolding_all rfl))
    (fun z hz => ?_) (fun z hz => ?_) (fun h₁ hn hk₁ => ?_)
  · have hz' : z ∈ [(PySem.Str.ofString "self", NameKind.local), (PySem.Str.ofString "at", .local), (PySem.Str.ofString "__class__", .free), (PySem.Str.ofString "super", .globalImplicit)] := hz
    simp only [List.mem_cons, List.not_mem_nil, or_false] at hz'
    rcases hz' with rfl | rfl | rfl | rfl <;> exact fun e => NameKind.noConfusion e
  · simp only [List.mem_cons, List.not_mem_nil, or_false] at hz
    rcases hz with rfl | rfl
    · exact lself
    · exact lf
  have bself : ([("self", Value.ref y), (f, v)] : List (Str × Value)).reverse.lookup ("self" : Str) = some (.ref y) := by
    rfl
  have bf : ([("self", Value.ref y), (f, v)] : List (Str × Value)).reverse.lookup f = some v := by
    rfl
  have hL := hn.lt
  have X₁ : K.In h₁ := X.keeps hk₁
  have hx₁ := hk₁ _ _ hx
  have hyC : y ≠ C := by
    rintro rfl
    have e := X _ _ hC
    rw [hx] at e
    cases e
  -- super().__init__(msg)
  show wpAt (model prog w) (A.deeper (ksEnv qual eS s.heap.objs.size fI (.ref cda) cc)) (.func (eB msg q) (ksEnv qual eS s.heap.objs.size fI (.ref cda) cc)) (execs (.Expr (.Call (.Attribute (.Call (.Name "super" q.a1) [] [] q.a2) "__init__" q.a3) [.Constant (.str msg) 0 q.a4] [] q.a5) q.a6 :: [.Assign [.Attribute (.Name "self" q.b1) f q.b2] (.Name f q.b3) q.b4]) (ksEnv qual eS s.heap.objs.size fI (.ref cda) cc)) _ _ _
  refine ks_wpAt_execs_cons (ks_wpAt_Expr_any (ks_wpAt_MethodCall ?_ (one_line hpos)) rfl rfl)
  refine ks_wpAt_super_base (env := ksEnv qual eS s.heap.objs.size fI (.ref cda) cc) lsu lcl (by decide +kernel) rfl (X₁ _ _ ho) rfl (ar := { arg := "self", annotation := none, pos := p1 }) rfl rfl (X₁ _ _ hcode) rfl hvs hfile T.top ?_
  refine ks_loadName_global rfl lsu (loadGlobal_builtin (env := ksEnv qual eS s.heap.objs.size fI (.ref cda) cc) (hns.keeps hk₁) T.gS (hb.keeps hk₁) hbs ⟨rfl, ?_⟩)
  refine wpAny_loadName_free rfl lcl rfl ⟨_, X₁ _ _ hcell, rfl⟩ ?_
  refine wpAny_loadName_local rfl lself hn bself ?_
  refine ks_wpAny_isType_cls (X₁ _ _ hC) rfl ⟨rfl, ?_⟩
  refine ks_wpAny_call_super (X₁ _ _ hC) rfl hx₁ rfl (fun c e => by cases e) (looks_mroIn X₁ T.ownC) (fun h₂ e₂ k₂ => ?_)
  have X₂ : K.In h₂ := X₁.keeps k₂
  have hx₂ := k₂ _ _ hx₁
  have I₂ : InstAt h₂ y (excO C t0) C none := ⟨hx₂, rfl, rfl, trivial⟩
  refine kxs_getMethod kxs_ValueError e₂ (looks_opaque X₂ T.op) (l₀ := .ref C :: bm) ?_ (PySem.ESX.drop_own C bm) X₂ hal (I₂.type.andThen (looks_subIn X₂ T.veC)) hyC (by decide +kernel) ?_
  · exact (looks_clsIn X₂ hcl).andThen .now
  show wpAny _ _ (callWith _ _ [] (backTo _ (starEach [Expr.Constant (.str msg) 0 q.a4] _)) []) _ _ _
  have hu : (h₂.push (kxs_mw "ValueError.__init__" y)).get? h₂.objs.size = some (kxs_mw "ValueError.__init__" y) := Heap.get?_push_size _ rfl
  have k₃ : ∀ b o, h₂.get? b = some o → (h₂.push (kxs_mw "ValueError.__init__" y)).get? b = some o := fun b o e => Heap.get?_push_of_some _ e
  refine kxs_callWith (i := "ValueError.__init__") (x := y) rfl ?_
  refine evalArgs_plain ?_
  show wpAny _ _ (spliced ((false, eval (.Constant (.str msg) 0 q.a4) (ksEnv qual eS s.heap.objs.size fI (.ref cda) cc)) :: [])) _ _ _
  refine Calls.spliced_cons (Calls.Constant_str ?_)
  refine Calls.spliced_nil ⟨hu, ?_⟩
  refine call_mw (X₂.keeps k₃ _ _ hC) hu (k₃ _ _ hx₂) (one_size _) fun h₄ t1 k₄ hx₄ => ?_
  have kk : ∀ b o, b ≠ y → h₁.get? b = some o → h₄.get? b = some o := fun b o hb e => k₄ b o hb (k₃ _ _ (k₂ _ _ e))
  have hLy : s.heap.objs.size ≠ y := Nat.ne_of_gt (Heap.lt_size hx)
  have X₄ : K.In h₄ := fun a o e => kk a o (fun z => by
    subst z
    rw [hnx] at e
    cases e) (X₁ _ _ e)
  -- self.f = f
  have hn₄ : h₄.Ns s.heap.objs.size (fun z => ([("self", Value.ref y), (f, v)] : List (Str × Value)).reverse.lookup z) := by
    obtain ⟨o, es, ep, e1, r⟩ := hn
    exact ⟨o, es, ep, kk _ _ hLy e1, r⟩
  refine ks_wpAt_execs_cons (ks_wpAt_Assign_Attr ?_ rfl)
  refine wpAt_of_wpAny ?_
  refine ldX (env := ksEnv qual eS s.heap.objs.size fI (.ref cda) cc) (v := v) (y := f) hn₄ bf ?_ rfl lf (by decide +kernel)
  refine ldX (env := ksEnv qual eS s.heap.objs.size fI (.ref cda) cc) (v := .ref y) (y := "self") hn₄ bself ?_ rfl lself (by decide +kernel)
  refine set_plain X₄ (ox := excO C t1) (od := none) ⟨hx₄, rfl, rfl, trivial⟩ T.sa ?_
  refine exc_osa X₄ hx₄ hcl (show refsVE (.ref C :: bm) = true from hbm) rfl T.noN (fun h₅ tk₅ dx k₅ dn dne hx₅ hn₅ => ?_)
  have z : s.heap.objs.size ≤ dx := Nat.le_trans (Nat.le_of_lt hn₄.lt) dn
  show wpAt (model prog w) _ _ (execs [] _) _ _ _
  refine wpAt_of_wpAny (wpAny_execs_nil ?_)
  exact hq h₅ _ dx t1 ⟨fun b o hb' e => k₅ b o hb' (kk b o hb' (hk₁ _ _ e)), hx₅, z, dne, hn₅⟩
/-- X(v), made -/
theorem err_made (T : ErrTxt prog K mg x C fI) {v : Value} (X : K.In s.heap) (hlim : s.heap.NoLimit) (hns : s.heap.Ns mainGlobals mg) {mb : Str → Option Value} (hb : s.heap.Ns builtinsNs mb) (hbs : mb "super" = some (.type "super")) (hroom : A.depth + 1 < recursionLimit)
    (hq : ∀ h' tk e d, OwnMade s.heap h' e C d v → R (.ok (.ret (.ref e))) { s with heap := h', toks := tk }) :
    codeAny (model prog w) A (.call (.ref C) ⟨[v], []⟩) R s := by
  obtain ⟨nm, qn, N, bs, bm, sn, sub, ab, col, dd, k0, k1, k2, k3, k5, hC, hbm, hal⟩ := T.cls
  obtain ⟨hp, g, dr, tk, os⟩ := s
  have k : ∀ b o, hp.get? b = some o → ((hp.push (kdv_tup [v])).push (excO C hp.objs.size)).get? b = some o := fun b o e => Heap.get?_push_of_some _ (Heap.get?_push_of_some _ e)
  have hget : ((hp.push (kdv_tup [v])).push (excO C hp.objs.size)).get? (hp.objs.size + 1) = some (excO C hp.objs.size) := by heap_get
  have hnx : K.lookup (hp.objs.size + 1) = none := by
    cases e : K.lookup (hp.objs.size + 1) with
    | none => rfl
    | some o =>
      have z : hp.get? (hp.objs.size + 1) = some o := X _ _ e
      exact absurd (Nat.lt_of_succ_lt (Heap.lt_size z)) (Nat.lt_irrefl _)
  refine call_own F.excBase_ValueError (fun X => refsVE_contains X bm hbm) (X _ _ hC) (looks_findIn X T.iC) (fun self => bind_fn X self T.tC) (one_size v) ?_
  refine err_init (s := ⟨(hp.push (kdv_tup [v])).push (excO C hp.objs.size), g, dr, tk, os⟩) T (X.keeps k) (hlim.keeps k) (hns.keeps k) (hb.keeps k) hbs hget hnx ?_ fun h' tk' dx t1 ⟨k', hx, dn, dne, hns'⟩ => ?_
  · show A.depth + 1 < recursionLimit
    exact hroom
  · have old : ∀ b o, hp.get? b = some o → h'.get? b = some o := fun b o e => k' b o (Nat.ne_of_lt (Nat.lt_succ_of_lt (Heap.lt_size e))) (k b o e)
    have z : hp.objs.size + 1 + 1 ≤ dx := by
      first
        | (simpa only [Heap.size_push] using dn)
        | exact dn
        | (have q := dn; rw [Heap.size_push, Heap.size_push] at q; exact q)
    exact ⟨rfl, hq h' tk' (hp.objs.size + 1) dx ⟨old, Nat.le_succ _, ⟨_, _, hx, rfl, rfl, rfl, rfl⟩, Nat.le_trans (Nat.le_trans (Nat.le_succ _) (Nat.le_succ _)) z, dne, hns'⟩⟩
end
end KwE
end PySem
/-! Errors of the package over the hand layer: X(v) made and raised, fault.at and isinstance(fault, KeepError) in a suite, methods whose error a try takes. -/
namespace L2
open PySem PySem.Spec PyProof.Rows
abbrev fAt : Str := "at"
theorem relO_at {v : V} {v' : Value} (r : RelV v v') (g : Str) : RelO (List.lookup g [(fAt, v)]) (if g = fAt then some v' else none) := by
  by_cases hw : g = fAt
  · subst hw
    rw [if_pos rfl]
    have q : List.lookup fAt [(fAt, v)] = some v := by simp [List.lookup]
    rw [q]
    exact r
  · rw [if_neg hw]
    have qw : (g == fAt) = false := by simpa using hw
    have q2 : List.lookup g [(fAt, v)] = none := by simp [List.lookup, qw]
    rw [q2]
    trivial
section
variable {X : Cx} {C fI : Addr} {x : Str}
/-- X(e) -/
def tMkE (C : Addr) (ta : TA) : St → Hp → XK → Prop := fun σ H Q => ta σ H fun vs H1 => ∃ v, vs = [v] ∧ ∀ d, H1 d = none → Q (.ref C) (some d) (upd H1 d (.xd [(fAt, v)]))
theorem pmk_err {a : Expr} {ta : TA} {p pos : Pos} {k : Nat} (T : PySem.KwE.ErrTxt X.prog X.K X.mg x C fI) (hr : Room k X.A) (ha : PA X [a] ta) (hg : Gl X x := by rfl) (hdb : (x == ("__debug__" : Str)) = false := by decide)
    (he : starEach (a :: []) X.env = (false, eval a X.env) :: starEach [] X.env := by rfl) (hpl : (backTo pos (starEach [] X.env)).any (·.1) = false := by rfl) :
    PMk X (.Call (.Name x p) [a] [] pos) (tMkE C ta) := by
  intro pins s σ H Q I h
  refine wpAny_Call_Name_kw (ld_glob I hg T.gC ?_ hdb)
  refine PySem.W.callWith_K (h₀ := X.base) I.ok.mod.kin T.kC (thn (ha.run pos pins s σ H _ I h) fun us s1 hh => ?_) he hpl
  obtain ⟨vs, H1, I1, r1, v, ev, q1⟩ := hh
  subst ev
  refine ⟨I1.kIn, ?_⟩
  cases r1 with
  | cons rv rn =>
    rename_i v' us'
    cases rn
    show wpAny _ _ (call (.ref C) [v']) _ _ _
    have hlim := I1.nolimit
    have hgl := I1.ok.mod.glob.keeps I1.bk
    obtain ⟨mb, hbl, hbv⟩ := I1.ok.mod.blt
    have hbl' := hbl.keeps I1.bk
    have hbs : mb "super" = some (.type "super") := (hbv _ (by decide +kernel)).trans (by first | rfl | decide +kernel)
    obtain ⟨hp, g, dr, tk, os⟩ := s1
    refine wpAny_call (PySem.KwE.err_made T I1.kIn hlim hgl hbl' hbs (by have := hr.dp; omega) fun h' tk' e d M => ?_)
    show MkP X pins σ Q (.ref e) ⟨h', g, dr, tk', os⟩
    obtain ⟨oe, fv, hoe, hc, hd, hdat, h1⟩ := M.obj
    have hns := M.ns
    obtain ⟨G', g1, g2⟩ := restrict h' fun b => decide (b ≠ e)
    have gk : ∀ b, b ≠ e → G'.get? b = h'.get? b := fun b hb => g1 b (decide_eq_true hb)
    have ge : G'.get? e = none := g2 e (by simp)
    have old : ∀ b o, hp.get? b = some o → G'.get? b = some o := fun b o q => (gk b (Nat.ne_of_lt (Nat.lt_of_lt_of_le (Heap.lt_size q) M.new))).trans (M.keep b o q)
    have ob : ObjOk X.prog X.w (upd H1 d (.xd [(fAt, v)])) G' d (.xd [(fAt, v)]) :=
      ⟨_, hns.at (fun o q => (gk d M.dne).trans q), fun f => relO_at rv f⟩
    have J : Inv X pins σ (upd H1 d (.xd [(fAt, v)])) ⟨G', g, dr, tk', os⟩ := I1.laid (t' := tk') old M.dbig ob
    refine ⟨e, oe, fv, ⟨G', g, dr, tk', os⟩, _, .ref C, some d, rfl, J, fun b o q => ?_, ge, hoe, ⟨hc, hd⟩, hdat, h1, ?_, rfl, I1.bare, raises_own T.exC T.tyC, q1 d (I1.hok.fresh M.dbig)⟩
    · by_cases hb : b = e
      · have q' : G'.get? b = some o := q
        rw [hb, ge] at q'; cases q'
      · exact (gk b hb).symm.trans q
    · rw [upd_ne (Ne.symm M.dne)]
      exact I1.hok.fresh M.new
/-- raise X(e) -/
def tRaiseE (C : Addr) (W : WX) (ta : TA) : TS := fun _ σ H => tMkE C ta σ H fun cls d H' => W cls d σ H'
theorem ps_raiseE {a : Expr} {ta : TA} {W : WX} {p pos pos2 : Pos} {k : Nat} (hc : X.calm = true) (T : PySem.KwE.ErrTxt X.prog X.K X.mg x C fI) (hr : Room k X.A) (tk : Takes X W) (ha : PA X [a] ta) (hg : Gl X x := by rfl) (hdb : (x == ("__debug__" : Str)) = false := by decide)
    (he : starEach (a :: []) X.env = (false, eval a X.env) :: starEach [] X.env := by rfl) (hpl : (backTo pos (starEach [] X.env)).any (·.1) = false := by rfl) :
    PS X (.Raise (some (.Call (.Name x p) [a] [] pos)) none pos2) (tRaiseE C W ta) := ps_raise hc tk (pmk_err T hr ha hg hdb he hpl)
/-- fault.at, fault the error that the suite holds (at a; its class cls, its dict d) -/
def tErrAt (C : Addr) (a : Addr) (cls : Value) (d : Option Addr) (te : TE) : TE := fun σ H Q => te σ H fun y H1 => y = .ref a ∧ cls = .ref C ∧ ∃ (dd : Addr) (v : V), d = some dd ∧ H1 dd = some (.xd [(fAt, v)]) ∧ Q v H1
theorem pe_errAt {P : Program} {mg : Str → Option Value} {a : Addr} {oe : Obj} {cls : Value} {d : Option Addr} {pn : List (Addr × Obj)} {e : Expr} {te : TE} {pos : Pos} (T : PySem.KwE.ErrTxt P X.K mg x C fI) (hz : Zc cls d oe) (hf : ∃ vs, oe.data = .fields vs) (he : PE (X.suite a ((a, oe) :: pn)) e te)
    (hb : attributeBase e fAt X.env (eval e X.env) = eval e X.env := by rfl) :
    PE (X.suite a ((a, oe) :: pn)) (.Attribute e fAt pos) (tErrAt C a cls d te) := by
  refine ⟨fun pins s σ H Q I h => ?_⟩
  refine attr_of hb (thn (he.run pins s σ H _ I h) fun u s1 hh => ?_)
  obtain ⟨y, H1, I1, rx, ex, ec, dd, v, ed, ea, q⟩ := hh
  subst ex
  obtain rfl : u = Value.ref a := rx
  subst ec
  subst ed
  obtain ⟨ha, _⟩ := I1.pin (a, oe) (List.mem_append_left _ List.mem_cons_self)
  obtain ⟨vs, hd⟩ := hf
  have hx : ObjOk X.prog X.w H1 s1.heap dd (.xd [(fAt, v)]) := I1.hok dd _ ea
  obtain ⟨mA, hns, hr⟩ := hx
  obtain ⟨od, ho, hl⟩ := lookIn_ns hns
  have l : List.lookup fAt [(fAt, v)] = some v := by simp [List.lookup]
  obtain ⟨u, hu, ru⟩ := RelO.some_of (v := v) (o := mA fAt) (by rw [← l]; exact hr fAt)
  have J : PySem.W.InstAt s1.heap a oe C (some od) := ⟨ha, hz.1, by unfold PySem.W.notCls; rw [hd] <;> rfl, by rw [hz.2]; exact ho⟩
  exact HandSPX.exc_get I1.kIn J T.ga T.gg T.exC (PySem.W.findObj_own T.hdC T.noN rfl (by rw [hl, hu])) (handed_of ru) ⟨v, H1, I1.tok _, ru, q⟩

/-- what the class must say, so that isinstance asks its instances rightly -/
structure ErrIs (K : PySem.W.Frag) (C : Addr) : Prop where
  cl : (PySem.W.clsIn K C).isSome = true
  ha : PySem.W.findIn K (.ref C) "__class__" = some (some (.builtin "object.__class__"))
  hn : PySem.W.specialIn K (.builtin "object.__class__") "__get__" = some (some (.builtin "getset_descriptor.__get__"))
  ht : PySem.W.takesIn K (.builtin "object.__class__") = some true
  hm : PySem.W.mroIn K C (.type "object") = some true
/-- isinstance(fault, c) in the suite: its answer b -/
def rErrIs (K : PySem.W.Frag) (C a : Addr) (cls : Value) (d : Option Addr) : List V → Hp → VK → Prop := fun xs H Q => ∃ (c : Addr) (b : Bool) (dd : Addr) (fs : List (Str × V)), cls = .ref C ∧ xs = [.ref a, .ref c] ∧ d = some dd ∧ H dd = some (.xd fs) ∧ PySem.W.kitOne K (.ref C) (.ref c) = some b ∧ Q (.bl b) H
theorem call_errIs {P : Program} {mg : Str → Option Value} {a : Addr} {oe : Obj} {cls : Value} {d : Option Addr} {pn : List (Addr × Obj)} (T : PySem.KwE.ErrTxt P X.K mg x C fI) (S : ErrIs X.K C) (hz : Zc cls d oe) (hf : ∃ vs, oe.data = .fields vs) :
    CallR (X.suite a ((a, oe) :: pn)) (.builtin "isinstance") (rErrIs X.K C a cls d) := by
  intro pins s σ H xs us Q I r h
  obtain ⟨c, b, dd, fs, rfl, rfl, rfl, ed, e, q⟩ := h
  cases r with
  | cons rx rr =>
    cases rr with
    | cons rt rr =>
      cases rr
      cases rx
      cases rt
      obtain ⟨hget, _⟩ := I.pin (a, oe) (List.mem_append.mpr (.inl List.mem_cons_self))
      obtain ⟨vs, hv⟩ := hf
      have hx : ObjOk X.prog X.w H s.heap dd (.xd fs) := I.hok dd _ ed
      obtain ⟨mA, ⟨od, es, ep, ho, _⟩, hr⟩ := hx
      have J : PySem.W.InstAt s.heap a oe C (some od) := ⟨hget, hz.1, by unfold PySem.W.notCls; rw [hv] <;> rfl, by rw [hz.2]; exact ho⟩
      exact PySem.W.kia_one (PySem.W.kitx_exc S.cl T.ga T.gg T.exC S.ha S.hn S.ht S.hm) I.kIn J e (fun z => nomatch z) fun tk => ⟨.bl b, H, I.kept (t' := tk) fun _ _ z => z, rfl, q⟩
end

/-! ### methods whose error is wished for at the slots -/
section
variable {X : Cx} {CX : CXT} {k : Nat} {f C : Addr} {fd : FuncData} {ps : List Str} {sp : Sp} {E : St → XK} {m : Str} {pos apos : Pos} {e o : Expr} {es : List Expr} {ta : TE} {t : TA}
/-- o.m(..), what is raised wished for at the caller's slots -/
def tMethSw (m : Str) (C : Addr) (sp : Sp) (E : St → XK) (ta : TE) (t : TA) : TE := fun σ H Q => ta σ H fun y H1 => ∃ a dx fs, y = .ref a ∧ H1 a = some (.ins C dx fs) ∧ fs.lookup m = none ∧
  t σ H1 fun vs H2 => sp (y :: vs) H2 Q (E σ)
theorem pe_methSw {pl : Sem Bool} (he : PE X o ta) (c : Cls X.K C) (hm : Meth X.K C m f) (F : FnOk X.prog X.w X.K X.mg X.base CX k f fd ps sp) (hr : Room k X.A) (hb : Binds X.K fd ps []) (hx : ∀ σ, PassesAt CX X σ (E σ)) (ha : PA X (e :: es) t)
    (hst : starEach (e :: es) X.env = (false, eval e X.env) :: starEach es X.env := by rfl) (hpl : (backTo pos (starEach es X.env)).any (·.1) = false := by rfl)
    (ht : eval (.Call (.Attribute o m apos) (e :: es) [] pos) X.env = (do
      let ov ← eval o X.env
      standAt apos.atName
      let (f, first) ← holding [ov] (getMethod ov m pl)
      callWith pos f first (backTo pos (starEach (e :: es) X.env)) (backToKw pos (keywordEach [] X.env))) := by rfl) :
    PE X (.Call (.Attribute o m apos) (e :: es) [] pos) (tMethSw m C sp E ta t) := by
  constructor
  intro pins s σ H Q I h
  refine PySem.W.methodCall_KW (pl := pl) (thn (he.run pins s σ H _ I h) fun u s1 hh => ?_) ht
  obtain ⟨y, H1, I1, rx, a, dx, fs, ex, ea, l, q⟩ := hh
  subst ex
  obtain rfl : u = Value.ref a := rx
  refine getmeth_ok I1 ea c hm l (PySem.W.callWith_K (first := [.ref a]) (h₀ := X.base) I1.ok.mod.kin hm.kp (thn (ha.run pos pins s1 σ H1 _ I1 q) fun us s2 hh2 => ?_) hst hpl)
  obtain ⟨vs, H2, I2, r, q2⟩ := hh2
  exact ⟨I2.kIn, run_fnS (us := .ref a :: us) (vs := .ref a :: vs) F hr hb (hx σ) I2 (.cons rfl r) q2⟩
/-- a def that may raise, called where it does not -/
theorem passX0 {X : Cx} : Passes (L2.CX X.prog X.w) X E0 := fun _ _ _ _ _ _ _ h => by
  obtain ⟨a, B, H', cls, d, _, _, _, _, _, _, _, hE⟩ := h
  exact hE.elim
end
end L2
/-! set(xs) of a list or tuple of ints of any kind, len of it: with what the hand layer's sorted(set) wants. -/
namespace L2
open PySem PySem.Spec PyProof.Rows
section
variable {P : Program} {w : World} {A : Around} {E : Value → Shared → Prop} {s : Shared}
/-- a new, empty set -/
abbrev set0 (w : World) : Obj := { cls := .type "set", dict := none, data := .set #[] 0 (.fresh 0 0 (!w.params.followText "set-order")) }
/-- set.__init__ of a list of ints, at an empty set that stands last -/
theorem set_init_listI {l a : Addr} {items : Array Value} {ns : List Int} {R : Result → Shared → Prop} (hh : A.handled = none) (hl : s.heap.IsList l items) (hi : IntsAre items.toList ns) (hb : ns.length + 1 < scanBound)
    (ha : s.heap.get? a = some (set0 w)) (hla : l ≠ a)
    (h : ∀ (h' : Heap) (tk c : Nat), SetR w h' a (fun j => decide (j ∈ ns)) c → c ≤ ns.length → (∀ b o, b ≠ a → s.heap.get? b = some o → h'.get? b = some o) → R (.ok (.ret .none)) { s with heap := h', toks := tk }) :
    wpAny (model P w) A.in1 (Builtin.«set.__init__» ⟨[.ref a, .ref l], []⟩) (fun f s' => match f with | .done r => R (.ok r) s' | .again c => c.quiet = true ∧ codeAny (model P w) A c R s') (fun e s' => R (.error e) s') s := by
  have lenI : items.size = ns.length := by
    have q := IntsAre.length hi
    rwa [Array.length_toList] at q
  obtain ⟨ol, hol, hcl, nl, hdl⟩ := hl
  obtain ⟨kcls, kdict, kdata, kslots⟩ := ol
  dsimp only at hcl hdl
  subst hcl hdl
  have isl := F.sub_list_set
  have isf := F.sub_list_frozenset
  have nd : (Value.type "list" == Value.type "dict") = false := by decide
  have hl1 : s.heap.IsList l items := ⟨_, hol, rfl, nl, rfl⟩
  obtain ⟨hp, g, dr, tk0, os⟩ := s
  dsimp only at hol ha hl1 h
  unfold Builtin.«set.__init__» noKeywords Builtin.Frozenset.updateFrom
  generalize hPI : pyIter = PI
  wp_walk
  subst hPI
  refine wpAny_pyIter_list hl1 ?_
  refine wpAny_bind (wpAny_runValue ?_)
  have la : a < hp.objs.size := Heap.lt_size ha
  have ll : l < hp.objs.size := Heap.lt_size hol
  have h3 : A.in1.in1.handled = none := by simp [hh]
  have val : ∀ (i : Nat) (v : Value), items[i]? = some v → ∃ k t, ns[i]? = some k ∧ v = .int k t := fun i v hv => by
    have lt : i < ns.length := by rw [← lenI]; exact (Array.getElem?_eq_some_iff.mp hv).1
    obtain ⟨t, e⟩ := PyProof.Rows.IntsAre.int_at hi i v (by rw [Array.getElem?_toList]; exact hv)
    exact ⟨ns[i], t, List.getElem?_eq_getElem lt, by rw [e, List.getD_eq_getElem?_getD, List.getElem?_eq_getElem lt] <;> rfl⟩
  have nI : l ≠ hp.objs.size := Nat.ne_of_lt ll
  have nfp : a ∉ [hp.objs.size, l] := by
    simp only [List.mem_cons, List.not_mem_nil, or_false, not_or]
    exact ⟨Nat.ne_of_lt la, hla.symm⟩
  refine set_update_ints ((Walks.list h3 _ l nI items).toS) a nfp ns lenI hb val (items.size - 0) 0 _ (by omega) (Nat.zero_le _) ⟨⟨_, Heap.get?_push_size _ rfl, rfl, rfl⟩, (hl1.push _)⟩ ⟨0, Nat.le_refl 0, setR_new_at (Heap.get?_push_of_some _ ha)⟩ ?_
  intro s' c' hm hc' hS'
  obtain ⟨h', g2, d', tk', os'⟩ := s'
  obtain rfl : g2 = g := hm.gens
  obtain rfl : d' = dr := hm.drawn
  obtain rfl : os' = os := hm.os
  refine wpAny_pure ?_
  show wpAny _ _ (ret Value.none) _ _ _
  refine wpAny_pure (h h' tk' c' hS' (by omega) fun b o hb' e => hm.heap b o ?_ (Heap.get?_push_of_some _ e))
  simp only [List.mem_cons, List.not_mem_nil, or_false, not_or]
  exact ⟨hb', Nat.ne_of_lt (Heap.lt_size e)⟩
/-- T(args): new, then __init__ by its own code -/
theorem type_called {T newId initId : String} {args : List Value} {Q Q₁ : Value → Shared → Prop} (ft : TypeCalled T newId initId)
    (hct : ∀ {Q' : Unit → Shared → Prop} {E' : Value → Shared → Prop}, Q' () s → wpAny (model P w) A.in1 (checkTypeCall T ⟨args, []⟩) Q' E' s)
    (hnew : codeAny (model P w) A.in1 (.call (.builtin newId) ⟨.type T :: args, []⟩) (wants Q₁ E) s)
    (hnext : ∀ obj s₁, Q₁ obj s₁ → s₁.TypeIs obj T ∧ codeAny (model P w) A.in1 (.call (.builtin initId) ⟨obj :: args, []⟩) (wants (fun r s₂ => r = .none ∧ Q obj s₂) E) s₁) :
    wpAny (model P w) A (call (.type T) args) Q E s := by
  obtain ⟨c, tl, hmro⟩ := ft.mro
  have f0 := ft.made
  have f1 := ft.sub
  have f2 := ft.notType
  have f3 := ft.canCreate
  refine wpAny_call (codeAny_of_tree ?_)
  show wpAny _ _ (callAny (.type T) _) _ _ _
  refine wpAny_pure ⟨Code.quiet_builtin _ (by decide +kernel), codeAny_builtin F.entry_type_call ?_⟩
  rw [Around.under_plain (weight_type_call_type T args []) rfl]
  repeat (any_goals (first | assumption | (with_reducible refine hct ?_) | wp_step))
  refine codeAny_mono hnew fun r s₁ hr => ?_
  match r, hr with
  | .ok (.ret obj), hr =>
    obtain ⟨hT, hi⟩ := hnext obj s₁ hr
    have g0 := ft.init.lookup
    have g1 := ft.init.bind obj
    repeat (any_goals (first | assumption | wp_step))
    refine codeAny_mono hi fun r₂ s₂ hr₂ => ?_
    match r₂, hr₂ with
    | .ok (.ret r), hr₂ =>
      obtain ⟨rfl, hq⟩ := hr₂
      repeat (any_goals (first | assumption | wp_step))
    | .error e, hr₂ => exact hr₂
    | .ok .next, hr₂ => exact hr₂.elim
    | .ok .brk, hr₂ => exact hr₂.elim
    | .ok .cont, hr₂ => exact hr₂.elim
  | .error e, hr => exact hr
  | .ok .next, hr => exact hr.elim
  | .ok .brk, hr => exact hr.elim
  | .ok .cont, hr => exact hr.elim
/-- set(l) -/
theorem call_set_listI {l : Addr} {items : Array Value} (ns : List Int) {Q : Value → Shared → Prop} (hh : A.handled = none) (hl : s.heap.IsList l items) (hi : IntsAre items.toList ns) (hb : ns.length + 1 < scanBound)
    (h : ∀ (h' : Heap) (tk c : Nat), SetR w h' s.heap.objs.size (fun j => decide (j ∈ ns)) c → c ≤ ns.length → (∀ b o, s.heap.get? b = some o → h'.get? b = some o) → Q (.ref s.heap.objs.size) { s with heap := h', toks := tk }) :
    wpAny (model P w) A (call (.type "set") [.ref l]) Q E s := by
  have hlt : l < s.heap.objs.size := by
    obtain ⟨o, ho, _⟩ := hl
    exact Heap.lt_size ho
  refine type_called (Q₁ := fun obj s₁ => obj = .ref s.heap.objs.size ∧ s₁ = { s with heap := s.heap.push (set0 w) }) F.called_set (fun {Q' E'} q => by rw [F.typeCall_set_1]; exact wpAny_pure q) (code_set_led1 (.ref l) ⟨rfl, rfl⟩) fun obj s₁ h₁ => ?_
  obtain ⟨rfl, rfl⟩ := h₁
  have hS : (s.heap.push (set0 w)).get? s.heap.objs.size = some (set0 w) := Heap.get?_push_size _ rfl
  have hT : Shared.TypeIs { s with heap := s.heap.push (set0 w) } (.ref s.heap.objs.size) "set" := ⟨_, hS, rfl⟩
  refine ⟨hT, codeAny_call_builtin F.called_set.init.plain F.entry_set_init (check_set_init_1 hT ?_)⟩
  refine set_init_listI (s := { s with heap := s.heap.push (set0 w) }) hh (hl.push _) hi hb hS (Nat.ne_of_lt hlt) fun h' tk c hR hc hk => ?_
  exact ⟨rfl, h h' tk c hR hc fun b o e => hk b o (Nat.ne_of_lt (Heap.lt_size e)) (Heap.get?_push_of_some _ e)⟩
end
section
variable {X : Cx}
/-- set(xs) -/
def rSetI (K : PySem.W.Frag) (w : World) : List V → Hp → VK → Prop := fun vs H Q => ∃ (l : Addr) (ns : List Int), vs = [V.ref l] ∧ (SqL K H l (ns.map V.int) ∨ SqT K H l (ns.map V.int)) ∧ ns.length ≤ 4000 ∧
  ∀ (p : Addr) (c : Nat) (m : List Int), m.Nodup → (∀ k, k ∈ m ↔ k ∈ ns) → m.length = c → c ≤ ns.length → H p = none → Q (.ref p) (upd H p (SetO w p (fun j => decide (j ∈ ns)) c))
theorem cr_setI (hc : X.calm = true) : CallR X (.type "set") (rSetI X.K X.w) := by
  intro pins s σ H vs us Q I r h
  obtain ⟨l, ns, rfl, hs, hz, q⟩ := h
  rw [Vals.ref1 r]
  have hb : ns.length + 1 < scanBound := by unfold scanBound; omega
  have fin : ∀ (h' : Heap) (tk c : Nat), SetR X.w h' s.heap.objs.size (fun j => decide (j ∈ ns)) c → c ≤ ns.length → (∀ b o, s.heap.get? b = some o → h'.get? b = some o) → EP X pins σ Q (.ref s.heap.objs.size) { s with heap := h', toks := tk } := fun h' tk c hR hcl k =>
    have ⟨o, es, ep, t, ho, hex, hd, g, nd, hm, hb', hf, hn, hr', hl⟩ := id hR
    ⟨.ref _, _, I.laid (t' := tk) k (Nat.le_refl _) (setO_new hR), rfl, q _ c (es.toList.map keyOf) nd (fun k => (hm k).symm.trans ⟨of_decide_eq_true, decide_eq_true⟩) (by rw [List.length_map, Array.length_toList]; exact hn) hcl (I.hok.fresh (Nat.le_refl _))⟩
  rcases hs with hs | hs
  · obtain ⟨its, rv, pl, _⟩ := I.list hs
    exact call_set_listI ns (I.ok.hd hc) pl.isList (by simpa using ints_of_vals rv) hb fin
  · obtain ⟨its, rv, ⟨o, ho, hcl, n, hd⟩, _⟩ := I.tuple hs
    exact call_set_tupI ns (I.ok.hd hc) ⟨o, ho, hcl, n, hd⟩ (by simpa using ints_of_vals rv) hb fin
/-- len(a set) -/
def rLenSetO (w : World) : List V → Hp → VK → Prop := fun vs H Q => ∃ (a : Addr) (S : Int → Bool) (n : Nat), vs = [V.ref a] ∧ H a = some (SetO w a S n) ∧ (∀ m : List Int, m.Nodup → (∀ k, k ∈ m ↔ S k = true) → m.length = n → Q (.int (n : Nat)) H)
theorem call_lenSetO : CallR X (.builtin "len") (rLenSetO X.w) := by
  intro pins s σ H vs us Q I r h
  obtain ⟨a, S, n, rfl, ha, q⟩ := h
  rw [Vals.ref1 r]
  obtain ⟨o, es, ep, t, ho, hex, hd, g, nd, hm, hb, hf, hn, hr, hl⟩ := setO_get I ha
  have q' := q (es.toList.map keyOf) nd (fun k => (hm k).symm) (by rw [List.length_map, Array.length_toList]; exact hn)
  exact call_len_set ho hex hd hf (by unfold scanBound at hb; omega) ⟨.int (n : Nat), H, I.tok _, ⟨_, by rw [hn]⟩, q'⟩
end
end L2
/-! Defs that ask repr: no repr is under way around them (A.guards is told). repr of data; calls by keywords alone; the law's end for such a def. -/
namespace L2
open PySem PySem.Spec PyProof.Rows

/-! ### repr -/
section
variable {X : Cx}
/-- repr(x), x data -/
def rRepr (K : PySem.W.Frag) : List V → Hp → VK → Prop := fun xs H Q => ∃ (x : V) (d : PyData), xs = [x] ∧ Dp K H x d ∧ d.showable = true ∧ d.hasDict = false ∧ d.depth ≤ 100 ∧ d.shown.length ≤ sizeLine ∧ Q (.str d.shown) H
theorem call_repr {k : Nat} (hG : X.A.guards = some []) (hr : Room k X.A) : CallR X (.builtin "repr") (rRepr X.K) := by
  intro pins s σ H xs us Q I r h
  obtain ⟨x, d, rfl, hd, hs, hnd, hdp, hz, q⟩ := h
  have hun := hr.un
  cases r with
  | cons rx rr =>
    cases rr
    rename_i u
    obtain ⟨as, rd⟩ := Dp.reads I d x u hd rx
    have fin : ∀ (h' : Heap) (t : Tok) (tk : Nat), (∀ b o, s.heap.get? b = some o → h'.get? b = some o) → EP X pins σ Q (.str d.shown t) { s with heap := h', toks := tk } := fun h' t tk hk => ⟨.str d.shown, H, I.kept (t' := tk) hk, ⟨t, rfl⟩, q⟩
    cases hd with
    | non =>
      cases rd
      exact PySem.P.repr_of_none ⟨.str _, H, I.tok _, ⟨_, rfl⟩, q⟩
    | bl b =>
      cases rd
      have e : PyData.shown (.bool b) = ((if b then "True" else "False" : String) : Str) := by cases b <;> (simp only [PyData.shown]; rfl)
      refine PySem.P.repr_of_bool ⟨.str _, H, I.tok _, ⟨_, rfl⟩, ?_⟩
      cases b
      · simpa only [PyData.shown] using q
      · simpa only [PyData.shown] using q
    | int i =>
      cases rd
      have hi : i.natAbs.log2 < 1920 := by simpa [PyData.showable] using hs
      exact PySem.P.repr_of_int hi ⟨.str _, H, I.tok _, ⟨_, rfl⟩, by simpa only [PyData.shown] using q⟩
    | str y =>
      cases rd
      exact PySem.P.repr_of_str ⟨.str _, H, I.tok _, ⟨_, rfl⟩, by simpa only [PyData.shown] using q⟩ (by simpa only [PyData.shown] using hz)
    | lst _ _ =>
      cases rx
      exact repr_of_reads' rd hs (PyData.noDict_hsm hnd) hG (by omega) (fun _ _ e => e) (fun h' t tk hk => fin h' t tk hk) hz
    | tup _ _ =>
      cases rx
      exact repr_of_reads' rd hs (PyData.noDict_hsm hnd) hG (by omega) (fun _ _ e => e) (fun h' t tk hk => fin h' t tk hk) hz
end

/-! ### defs that know their guards -/
/-- as FnOk, where no repr is under way -/
structure FnG (P : Program) (w : World) (K : PySem.W.Frag) (mg : Str → Option Value) (base : Heap) (CX : CXT) (k : Nat) (f : Addr) (fd : FuncData) (ps : List Str) (sp : Sp) : Prop where
  len : ∀ vs H Q E, sp vs H Q E → vs.length = ps.length
  run : ∀ (A : Around) (outer : List Env) (s : Shared) (H : Hp) (args : Args) (us : List Value) (vs : List V) (Q : VK) (E : XK), A.guards = some [] → Room k A → Env0 P w K mg base A outer s H → BindsTo s fd args (ps.zip us) → Vals vs us → sp vs H Q E →
    codeAny (model P w) A (.call (.ref f) args) (CR CX outer P w H s Q E) s
section
variable {P : Program} {w : World} {K : PySem.W.Frag} {mg : Str → Option Value} {base : Heap}
theorem FnOk.toG {CX : CXT} {k : Nat} {f : Addr} {fd : FuncData} {ps : List Str} {sp : Sp} (F : FnOk P w K mg base CX k f fd ps sp) : FnG P w K mg base CX k f fd ps sp :=
  ⟨F.len, fun A outer s H args us vs Q E _ => F.run A outer s H args us vs Q E⟩
/-- THE RULE for a def that may ask repr -/
theorem fn_ofG {CX : CXT} {k : Nat} {f : Addr} {name qual : Str} {params : Arguments} {body : List Stmt} {scope : Scope} {dV kV doc pm cdv ct oc : Value} {an od : Option Addr} {osl : Array (Option Value)} {N ps : List Str} {sp : Sp}
    (lk : K.lookup f = some ⟨oc, od, .func (PySem.W.fnOf name qual params body scope dV kV doc pm an cdv ct), osl⟩) (hcd : PySem.W.codeIn K cdv qual = true) (S : FnScope N ps scope) (len : ∀ vs H Q E, sp vs H Q E → vs.length = ps.length)
    (hbody : ∀ (A : Around) (outer : List Env) (s : Shared) (H : Hp) (vs : List V) (Q : VK) (E : XK), (A.deeper (envOfC qual scope s.heap.objs.size f cdv)).guards = some [] → Room k (A.deeper (envOfC qual scope s.heap.objs.size f cdv)) → sp vs H Q E →
      ∃ t, PSs (cxOf CX P w K mg base N qual scope f cdv A outer s H E) body t ∧ t { nx := fun _ H' => Q .non H', rt := Q } (start N vs) H) :
    FnG P w K mg base CX (k + 1) f (PySem.W.fnOf name qual params body scope dV kV doc pm an cdv ct) ps sp := by
  constructor
  · exact len
  intro A outer s H args us vs Q E hG hr e0 hb rv hsp
  have hlen := len _ _ _ _ hsp
  have inK : K.In s.heap := e0.mod.kin.keeps fun b o q => (e0.bs b o q).1
  have nolim : s.heap.NoLimit := e0.mod.nolimit.keeps fun b o q => (e0.bs b o q).1
  have kinds : ∀ y ∈ ps.zip us, scope.names.lookup y.1 = some .local ∨ (scope.names.lookup y.1 = some .cell ∧ ((cellsFrom (s.heap.objs.size + 1) scope.names []).lookup y.1).isSome = true) := by
    rintro ⟨n, v⟩ hy
    exact (S.par n (List.of_mem_zip hy).1).imp id fun q => ⟨q, PySem.W.cellsFrom_some _ _ _ (.inl q)⟩
  refine codeAny_call_function hr.depth (inK _ _ lk) rfl S.co S.gen rfl (PySem.W.codeRec_of inK hcd) (hb _ _ _ _ (wpAny_newFunctionEnv_cells S.kind kinds fun env he s1 x => ?_))
  subst he
  refine ⟨nolim.keeps x.toInCall.keep, codeAny_func ?_⟩
  obtain ⟨t, ht, hq⟩ := hbody A outer s H vs Q E hG (hr.deeper _) hsp
  refine wpAny_mono (ht.run [] s1 (start N vs) H _ (inv_start S hr.hd e0 hlen rv x) hq) (fun fl s' hs => ?_) fun e s' hs => hs
  match fl, hs with
  | .ret u, ⟨v, σ', H', J, r, q⟩ => exact ⟨v, H', J.os, J.bare, J.base, J.hok, r, q⟩
  | .next, ⟨σ', H', J, q⟩ => exact ⟨V.non, H', J.os, J.bare, J.base, J.hok, rfl, q⟩
  | .brk, ⟨_, _, _, q⟩ => exact False.elim q
  | .cont, ⟨_, _, _, q⟩ => exact False.elim q
theorem Fun.okG {x qual : Str} {st : Stmt} {f : Addr} {fd : FuncData} {N ps : List Str} {k : Nat} {sp : Sp} (F : Fun K x qual st f fd) (S : FnScope N ps (defScope st)) (len : ∀ vs H Q E, sp vs H Q E → vs.length = ps.length)
    (hbody : ∀ (cdv : Value) (A : Around) (outer : List Env) (s : Shared) (H : Hp) (vs : List V) (Q : VK) (E : XK), (A.deeper (envOfC qual (defScope st) s.heap.objs.size f cdv)).guards = some [] → Room k (A.deeper (envOfC qual (defScope st) s.heap.objs.size f cdv)) → sp vs H Q E →
      ∃ t, PSs (cxOf CX0 P w K mg base N qual (defScope st) f cdv A outer s H E).nox (defBody st) t ∧ t { nx := fun _ H' => Q .non H', rt := Q } (start N vs) H) : FnG P w K mg base CX0 (k + 1) f fd ps sp := by
  obtain ⟨oc, od, kV, doc, pm, an, cdv, ct, osl, rfl, lk, hcd⟩ := F.ex
  refine fn_ofG lk hcd S len fun A outer s H vs Q E hG hr hsp => ?_
  obtain ⟨t, h, q⟩ := hbody cdv A outer s H vs Q E hG hr hsp
  exact ⟨t, h.nox, q⟩
end
section
variable {X : Cx} {CX : CXT} {k n : Nat} {f : Addr} {fd : FuncData} {ps ks : List Str} {sp : Sp} {dvs : List V} {ds : List Value} {E : XK} {x : Str} {p pos : Pos} {e : Expr} {es : List Expr} {kws : List Keyword} {t tk : TA} {g : List Value → List Value → List Value} {gV : List V → List V → List V}
theorem run_fnG {pins : List (Addr × Obj)} {σ : St} {H : Hp} {s : Shared} {Q : VK} {us : List Value} {vs : List V} (F : FnG X.prog X.w X.K X.mg X.base CX k f fd ps sp) (hG : X.A.guards = some []) (hr : Room k X.A) (hb : Binds X.K fd ps []) (hx : Passes CX X E)
    (I : Inv X pins σ H s) (r : Vals vs us) (h : sp vs H Q E) : wpAny (model X.prog X.w) X.A (call (.ref f) us) (EP X pins σ Q) X.xe s := by
  have hl : us.length = ps.length := by rw [← r.length]; exact F.len _ _ _ _ h
  have b := hb s us I.kIn (by rw [List.append_nil]; exact hl)
  rw [List.append_nil] at b
  refine wpAny_call (codeAny_mono (F.run X.A X.stack s H ⟨us, []⟩ us vs Q E hG hr I.env0 b r h) fun r s' hq => ?_)
  match r, hq with
  | .error e, hq => exact hx pins σ H s e s' I hq
  | .ok (.ret u), hq => exact I.after hq
  | .ok .next, hq => exact False.elim hq
  | .ok .brk, hq => exact False.elim hq
  | .ok .cont, hq => exact False.elim hq
/-- f(e, ..), f a def that asks repr -/
theorem pe_callG2 (F : FnG X.prog X.w X.K X.mg X.base CX k f fd ps sp) (hG : X.A.guards = some []) (hr : Room k X.A) (hg : Gl X x) (hm : X.mg x = some (.ref f)) (hk : PySem.W.keepIn X.K (.ref f) = true) (hb : Binds X.K fd ps []) (hx : Passes CX X E)
    (ha : PA X (e :: es) t) (hdb : (x == ("__debug__" : Str)) = false := by decide) (he : starEach (e :: es) X.env = (false, eval e X.env) :: starEach es X.env := by rfl) (hpl : (backTo pos (starEach es X.env)).any (·.1) = false := by rfl) :
    PE X (.Call (.Name x p) (e :: es) [] pos) (tCall sp [] E t) := by
  constructor
  intro pins s σ H Q I h
  refine wpAny_Call_Name_kw (ld_glob I hg hm (PySem.W.callWith_K (h₀ := X.base) I.ok.mod.kin hk (thn (ha.run pos pins s σ H _ I h) fun us s1 hh => ?_) he hpl) hdb)
  obtain ⟨vs, H1, I1, r, q⟩ := hh
  rw [List.append_nil] at q
  exact ⟨I1.kIn, run_fnG F hG hr hb hx I1 r q⟩
/-- f(k = v, ..), keywords alone -/
theorem pe_callN0 (F : FnOk X.prog X.w X.K X.mg X.base CX k f fd ps sp) (hr : Room k X.A) (hg : Gl X x) (hm : X.mg x = some (.ref f)) (hk : PySem.W.keepIn X.K (.ref f) = true) (hb : KBn X.K fd ps 0 ks g gV) (hx : Passes CX X E)
    (hkw : PK X kws tk) (hall : (backToKw pos (keywordEach kws X.env)).all (·.1.isSome) = true := by rfl) (hks : (backToKw pos (keywordEach kws X.env)).filterMap (·.1) = ks := by rfl) (hdb : (x == ("__debug__" : Str)) = false := by decide)
    (hpl : ((backTo pos (starEach [] X.env)).any (·.1) || (backToKw pos (keywordEach kws X.env)).any (·.1.isNone)) = false := by rfl) :
    PE X (.Call (.Name x p) [] kws pos) (tCallN 0 ks.length sp gV E tNil tk) := by
  constructor
  intro pins s σ H Q I h
  refine wpAny_Call_Name_kw (ld_glob I hg hm (PySem.W.callWith_KW0 (h₀ := X.base) I.ok.mod.kin hk hall (thn (hkw.run pos pins s σ H _ I h) fun ws s2 hh => ?_) hpl) hdb)
  obtain ⟨zs, H2, I2, rz, l1, l2, q2⟩ := hh
  rw [hks]
  exact ⟨I2.kIn, run_fnN (us := []) (vs := []) F hr hb hx I2 .nil rz rfl l2 q2⟩
end
/-- the keywords of a def without defaults, in any order -/
theorem Fun.kbn0 {K : PySem.W.Frag} {x qual : Str} {st : Stmt} {f : Addr} {fd : FuncData} {ps ks : List Str} (F : Fun K x qual st f fd) (g : {α : Type} → List α → List α)
    (hrel : ∀ {zs : List V} {ws : List Value}, Vals zs ws → Vals (g zs) (g ws))
    (h : ∀ (kV doc pm : Value) (an : Option Addr) (cdv ct : Value) (ws : List Value), ws.length = ks.length → bindArgs (PySem.W.fnOf x qual (defArgs st) (defBody st) (defScope st) .none kV doc pm an cdv ct) ⟨[], ks.zip ws⟩ = pure (ps.zip (g ws))) :
    KBn K fd ps 0 ks (fun _ ws => g ws) (fun _ zs => g zs) := by
  obtain ⟨oc, od, kV, doc, pm, an, cdv, ct, osl, rfl, lk, hcd⟩ := F.ex
  refine ⟨fun s us ws _ h0 hl => ?_, fun _ rz => hrel rz⟩
  obtain rfl : us = [] := List.length_eq_zero_iff.mp h0
  exact .of_eq (h kV doc pm an cdv ct ws hl)

/-! ### the law's end -/
theorem law_callG {P : Program} {w : World} {K : PySem.W.Frag} {mg mb : Str → Option Value} {k : Nat} {fa a : Addr} {fd : FuncData} {x : Str} {sp : Sp} {s₁ : Shared} {vs : List Value} {ns : List Int}
    (KX : K.In s₁.heap) (hns : s₁.heap.Ns mainGlobals mg) (hb : s₁.heap.Ns builtinsNs mb) (hbb : ∀ x : Str, x ≠ "__name__" → mb x = bootBuiltins x) (hlim : s₁.heap.NoLimit) (hg : s₁.gens = #[])
    (ha : s₁.heap.get? a = some { cls := .type "list", data := .seq vs.toArray }) (hi : IntsAre vs ns) (hl : ns.length ≤ sizeLine) (hr : Room k callerA)
    (F : ∀ base : Heap, K.In base → base.Ns mainGlobals mg → FnG P w K mg base CX0 k fa fd [x] sp) (hbind : ∀ (s : Shared) (u : Value), BindsTo s fd ⟨[u], []⟩ [(x, u)])
    (hsp : ∀ H : Hp, Only H → SqL K H a (ns.map V.int) → sp [.ref a] H (fun v _ => v = .bl true) fun _ _ _ => False) :
    codeAny (model P w) callerA (.call (.ref fa) ⟨[.ref a], []⟩) (fun r s' => r = .ok (.ret (.bool true)) ∧ OldK s₁.heap s'.heap ∧ s'.os = s₁.os ∧ AllBare s'.gens) s₁ := by
  have rv := vals_ints hi
  have nv := hi.length
  -- any abstract heap that tracks at most the script
  have main : ∀ H : Hp, Only H → SqL K H a (ns.map V.int) → HOk P w H s₁.heap → (∀ b, H b ≠ none → b = a) → (H a ≠ none → K.lookup a = none) →
      codeAny (model P w) callerA (.call (.ref fa) ⟨[.ref a], []⟩) (fun r s' => r = .ok (.ret (.bool true)) ∧ OldK s₁.heap s'.heap ∧ s'.os = s₁.os ∧ AllBare s'.gens) s₁ := by
    intro H hO hS hok hA hK
    have at_a : ∀ {b : Addr}, H b ≠ none → b = a := fun {b} z => hA b z
    have free : ∀ {b : Addr} {o : Obj}, s₁.heap.get? b = some o → (∀ es ep, o.data = .dict es ep → True) → (b = a → False) → H b = none := fun {b o} _ _ ne => by
      cases q : H b with
      | none => rfl
      | some u => exact (ne (at_a (by rw [q]; simp))).elim
    have kp : ∀ {b : Addr} {o : Obj}, s₁.heap.get? b = some o → H b = none → (hidT s₁.heap H).get? b = some o := fun e n => hidT_get e n
    have dictNs : ∀ {b : Addr} {m : Str → Option Value}, s₁.heap.Ns b m → (hidT s₁.heap H).Ns b m := fun {b m} hN => by
      obtain ⟨o, es, ep, e, d, r⟩ := hN
      refine ⟨o, es, ep, kp e (free e (fun _ _ _ => trivial) fun z => ?_), d, r⟩
      subst z
      rw [ha] at e
      cases e
      cases d
    have inB : K.In (hidT s₁.heap H) := fun b o e => kp (KX b o e) (by
      cases q : H b with
      | none => rfl
      | some u =>
        have z : b = a := at_a (by rw [q]; simp)
        subst z
        rw [hK (by rw [q]; simp)] at e
        cases e)
    have M : Mod K mg (hidT s₁.heap H) := ⟨inB, dictNs hns, ⟨mb, dictNs hb, hbb⟩, let ⟨mc, h1, h2⟩ := hlim; ⟨mc, dictNs h1, h2⟩⟩
    have e0 : Env0 P w K mg (hidT s₁.heap H) callerA [] s₁ H := ⟨rfl, M, fun b o e => of_hidT e, Nat.le_of_eq (hidT_size _ _), trivial, (fun b z => absurd (show b ∈ ([] : List Addr) from z) List.not_mem_nil), hok, .of_eq hg⟩
    refine codeAny_mono ((F _ inB (dictNs hns)).run callerA [] s₁ H ⟨[.ref a], []⟩ [.ref a] [.ref a] _ _ rfl hr e0 (hbind s₁ (.ref a)) (.cons rfl .nil) (hsp H hO hS)) fun r s' h => ?_
    match r, h with
    | .error e, h => exact False.elim h
    | .ok .next, h => exact False.elim h
    | .ok .brk, h => exact False.elim h
    | .ok .cont, h => exact False.elim h
    | .ok (.ret u), ⟨v, H', os, bare, un, hok', r', q⟩ =>
      have q' : v = .bl true := q
      subst q'
      obtain rfl : u = Value.bool true := r'
      refine ⟨rfl, OldK.of_keep fun b o e => ?_, os, bare⟩
      rcases hO b with n | ⟨ob, xs, z⟩
      · exact un.keep b o e n (fun z => absurd (show b ∈ ([] : List Addr) from z) List.not_mem_nil) List.not_mem_nil
      · obtain ⟨e1, _⟩ := hok b _ z
        obtain ⟨e2, _⟩ := hok' b _ (un.frzs b ob _ z)
        rw [e] at e1
        cases e1
        exact e2
  have lenOk : ns.length ≤ sizeLine := hl
  cases hk : K.lookup a with
  | some o =>
    have e := KX a o hk
    rw [ha] at e
    cases e
    exact main (fun _ => none) (fun _ => .inl rfl) (.inr ⟨_, vs.toArray, _, hk, rfl, rfl, rfl, by rw [List.size_toArray, nv]; exact lenOk, by simpa using rv⟩) (fun b u z => by have z' : (none : Option HO) = some u := z; cases z') (fun b z => absurd rfl z) fun z => absurd rfl z
  | none =>
    have eq : ∀ {b : Addr}, b ≠ a → (if b = a then some (HO.frz { cls := .type "list", data := .seq vs.toArray } (.lst (ns.map V.int))) else none) = none := fun h => if_neg h
    refine main (fun b => if b = a then some (.frz { cls := .type "list", data := .seq vs.toArray } (.lst (ns.map V.int))) else none) (fun b => ?_) (.inl (.inr ⟨{ cls := .type "list", data := .seq vs.toArray }, if_pos rfl⟩)) (fun b u z => ?_) (fun b z => ?_) fun _ => hk
    · by_cases hb' : b = a
      · exact .inr ⟨_, _, if_pos hb'⟩
      · exact .inl (eq hb')
    · by_cases hb' : b = a
      · subst hb'
        have z' := (if_pos rfl).symm.trans z
        cases z'
        exact ⟨ha, by rw [List.length_map]; exact lenOk, vs, _, rv, ha⟩
      · have z' := (eq hb').symm.trans z
        cases z'
    · by_cases hb' : b = a
      · exact hb'
      · exact absurd (eq hb') z
/-- the goal that k_head leaves, from the law's promise, the law a def that asks repr -/
theorem walk_ofG {l : PySem.W.OpenLaw} {n k : Nat} {q : Program} {loose : List Str} {XP : (Str → Option Value) → Heap → Prop} {YP : World → Heap → Prop} {d : DefRec} {K : Params → PySem.W.Frag} {sp : World → Sp} {x : Str}
    (hn : l.most = some n) (hn2 : n ≤ sizeLine) (hdf : d.params.defaults = []) (hr : Room k callerA)
    (hY : ∀ (w : World) (h : Heap), YP w h → (K w.params).In h)
    (F : ∀ (w : World) (mg : Str → Option Value) (fa : Addr) (h : Heap), (K w.params).In h → h.Ns mainGlobals mg → mg d.name = some (.ref fa) →
      ∃ fd : FuncData, (∀ (s : Shared) (u : Value), BindsTo s fd ⟨[u], []⟩ [(x, u)]) ∧
        ∀ base : Heap, (K w.params).In base → base.Ns mainGlobals mg → FnG l.prog w (K w.params) mg base CX0 k fa fd [x] (sp w))
    (hsp : ∀ (w : World) (H : Hp) (a : Addr) (ns : List Int), ns.length ≤ n → Only H → SqL (K w.params) H a (ns.map V.int) → sp w [.ref a] H (fun v _ => v = .bl true) fun _ _ _ => False) :
    PySem.W.WalkO q loose XP YP l.row.toRowW d [] (fun f vs => PySem.call f vs) := by
  refine Att.attach_call hn hdf fun w s₀ s₁ mg mb fa o pm cd doc a vs ns G Y _ _ _ hmg hobj hints hlen hg => ?_
  have inK := hY w _ Y
  obtain ⟨fd, hb, hF⟩ := F w mg fa _ inK G.T.g hmg
  exact law_callG inK G.T.g G.T.b G.T.builtins G.T.nolimit hg hobj hints (Nat.le_trans hlen hn2) hr hF hb fun H hO hS => hsp w H a ns hlen hO hS
end L2
/-! {k: v for a in .. for b in ..}, and name = {..}: dict comprehensions of two clauses; a dict comprehension given to a local name. -/
namespace L2
open PySem PySem.Spec PyProof.Rows
/-- in each block that a comprehension of X runs -/
abbrev InBlk (X : Cx) (scope : Scope) (J : Cx → Prop) : Prop := ∀ (s : Shared) (H : Hp) (C : Addr) (cl : List (Str × Addr)) (fp : List Addr), J (X.blk s H scope (compEnvC scope cl C X.env) fp)

/-! ### the machine's turns -/
section
variable {prog : Program} {w : World} {A : Around} {R : Result → Shared → Prop} {s : Shared} {kx vx t0 i0 t1 i1 : Expr} {ifs0 ifs1 : List Expr} {scope : Scope} {pos : Pos} {it : Value} {D : Addr} {env : Env}
abbrev dcE (kx vx t0 i0 t1 i1 : Expr) (ifs0 ifs1 : List Expr) (scope : Scope) (pos : Pos) : Expr := .DictComp kx vx [⟨t0, i0, ifs0, 0⟩, ⟨t1, i1, ifs1, 0⟩] scope pos
abbrev testsIn (ifs : List Expr) (env : Env) : Sem Bool := forIn ifs true fun c r => if r = true then do let ok ← isTrue c env (eval c env); pure (ForInStep.yield ok) else pure (ForInStep.yield r)
theorem dcTurn_out (acc : Value) : compTurn (dcE kx vx t0 i0 t1 i1 ifs0 ifs1 scope pos) 0 it acc env = (do
    standAt i0.pos
    match ← pyNext it with
    | none => pure (.done .next)
    | some v =>
      letOwnedTupleGo t0 it v
      assign t0 env v
      let ok ← testsIn ifs0 env
      if ok then
        let x ← eval i1 env
        standAt i1.pos
        let x ← foldedSetIterable i1 env x
        let _ ← runOwn (.compStart (dcE kx vx t0 i0 t1 i1 ifs0 ifs1 scope pos) 1 (← holding [x] (pyIter x)) acc env) env
      again (.compLoop (dcE kx vx t0 i0 t1 i1 ifs0 ifs1 scope pos) 0 it acc env)) := by rfl
theorem dcTurn_in : compTurn (dcE kx vx t0 i0 t1 i1 ifs0 ifs1 scope pos) 1 it (.ref D) env = (do
    standAt i1.pos
    match ← pyNext it with
    | none => pure (.done .next)
    | some v =>
      letOwnedTupleGo t1 it v
      assign t1 env v
      let ok ← testsIn ifs1 env
      if ok then
        (do
          let kv ← eval kx env
          let vv ← holding [kv] (eval vx env)
          standAt { kx.pos with endLine := vx.pos.endLine, endCol := vx.pos.endCol }
          holding [kv, vv] (dictSet D kv vv))
      again (.compLoop (dcE kx vx t0 i0 t1 i1 ifs0 ifs1 scope pos) 1 it (.ref D) env)) := by rfl
abbrev upNoted (prog : Program) (w : World) (A : Around) (env : Env) (R : Result → Shared → Prop) : Value → Shared → Prop := notedBy (model prog w) A env fun e s' => R (.error e) s'
/-- the outer loop -/
theorem dcLoop_out {acc : Value} (hs : ∀ x, foldedSetIterable i1 env x = pure x) (I : Nat → Shared → Prop)
    (turn : ∀ n s, I n s → wpAny (model prog w) A (pyNext it) (fun r s1 => match r with
      | none => R (.ok .next) s1
      | some v => wpAny (model prog w) A (letOwnedTupleGo t0 it v) (fun _ s2 => wpAny (model prog w) A (assign t0 env v) (fun _ s3 => wpAny (model prog w) A (testsIn ifs0 env) (fun ok s4 =>
          if ok = true then wpAny (model prog w) A (eval i1 env) (fun x s5 => wpAny (model prog w) A (pyIter x) (fun it1 s6 =>
            codeAny (model prog w) A (.compStart (dcE kx vx t0 i0 t1 i1 ifs0 ifs1 scope pos) 1 it1 acc env) (fun r s' => match r with
              | .ok _ => ∃ m, m < n ∧ I m s'
              | .error _ => False) s6) (upNoted prog w A env R) s5) (upNoted prog w A env R) s4
          else ∃ m, m < n ∧ I m s4) (upNoted prog w A env R) s3) (upNoted prog w A env R) s2) (upNoted prog w A env R) s1) (upNoted prog w A env R) s)
    (n : Nat) (h : I n s) : codeAny (model prog w) A (.compLoop (dcE kx vx t0 i0 t1 i1 ifs0 ifs1 scope pos) 0 it acc env) R s := by
  refine codeAny_loop rfl I (fun m u hu => ?_) n h
  show wpAny _ A ((compTurn (dcE kx vx t0 i0 t1 i1 ifs0 ifs1 scope pos) 0 it acc env).onRaise (fun x => do noteFrame x env; theTreesLotGoes x)) _ _ u
  refine wpAny_noted ?_
  rw [dcTurn_out]
  refine wpAny_bind (wpAny_standAt (wpAny_bind (wpAny_mono (turn m u hu) (fun r s1 h1 => ?_) fun _ _ z => z)))
  match r, h1 with
  | none, h1 => exact wpAny_pure h1
  | some v, h1 =>
    refine wpAny_bind (wpAny_mono h1 (fun _ s2 h2 => wpAny_bind (wpAny_mono h2 (fun _ s3 h3 => wpAny_bind (wpAny_mono h3 (fun ok s4 h4 => ?_) fun _ _ z => z)) fun _ _ z => z)) fun _ _ z => z)
    match ok, h4 with
    | false, h4 => exact wpAny_pure ⟨rfl, h4⟩
    | true, h4 =>
      refine wpAny_bind (wpAny_mono h4 (fun x s5 h5 => wpAny_bind (wpAny_standAt (wpAny_bind (wpAny_of_eq (hs x) (wpAny_bind (wpAny_holding (wpAny_mono h5 (fun it1 s6 h6 => ?_) fun _ _ z => z))))))) fun _ _ z => z)
      refine wpAny_bind (wpAny_runOwn ?_)
      rw [Around.mark_none]
      refine codeAny_mono h6 fun q s' hq => ?_
      match q, hq with
      | .error e, hq => exact hq.elim
      | .ok f, hq => first | exact wpAny_pure ⟨rfl, hq⟩ | exact wpAny_bind (wpAny_pure (wpAny_pure ⟨rfl, hq⟩))
/-- the inner loop -/
theorem dcLoop_in (I : Nat → Shared → Prop)
    (turn : ∀ n s, I n s → wpAny (model prog w) A (pyNext it) (fun r s1 => match r with
      | none => R (.ok .next) s1
      | some v => wpAny (model prog w) A (letOwnedTupleGo t1 it v) (fun _ s2 => wpAny (model prog w) A (assign t1 env v) (fun _ s3 => wpAny (model prog w) A (testsIn ifs1 env) (fun ok s4 =>
          if ok = true then wpAny (model prog w) A (eval kx env) (fun kv s5 => wpAny (model prog w) A (eval vx env) (fun vv s6 =>
            wpAny (model prog w) A (dictSet D kv vv) (fun _ s7 => ∃ m, m < n ∧ I m s7) (upNoted prog w A env R) s6) (upNoted prog w A env R) s5) (upNoted prog w A env R) s4
          else ∃ m, m < n ∧ I m s4) (upNoted prog w A env R) s3) (upNoted prog w A env R) s2) (upNoted prog w A env R) s1) (upNoted prog w A env R) s)
    (n : Nat) (h : I n s) : codeAny (model prog w) A (.compLoop (dcE kx vx t0 i0 t1 i1 ifs0 ifs1 scope pos) 1 it (.ref D) env) R s := by
  refine codeAny_loop rfl I (fun m u hu => ?_) n h
  show wpAny _ A ((compTurn (dcE kx vx t0 i0 t1 i1 ifs0 ifs1 scope pos) 1 it (.ref D) env).onRaise (fun x => do noteFrame x env; theTreesLotGoes x)) _ _ u
  refine wpAny_noted ?_
  rw [dcTurn_in]
  refine wpAny_bind (wpAny_standAt (wpAny_bind (wpAny_mono (turn m u hu) (fun r s1 h1 => ?_) fun _ _ z => z)))
  match r, h1 with
  | none, h1 => exact wpAny_pure h1
  | some v, h1 =>
    refine wpAny_bind (wpAny_mono h1 (fun _ s2 h2 => wpAny_bind (wpAny_mono h2 (fun _ s3 h3 => wpAny_bind (wpAny_mono h3 (fun ok s4 h4 => ?_) fun _ _ z => z)) fun _ _ z => z)) fun _ _ z => z)
    match ok, h4 with
    | false, h4 => exact wpAny_pure ⟨rfl, h4⟩
    | true, h4 =>
      exact wpAny_bind (wpAny_bind (wpAny_mono h4 (fun kv s5 h5 => wpAny_bind (wpAny_holding (wpAny_mono h5 (fun vv s6 h6 => wpAny_bind (wpAny_standAt (wpAny_holding (wpAny_mono h6 (fun _ s7 h7 => wpAny_pure ⟨rfl, h7⟩) fun _ _ z => z)))) fun _ _ z => z))) fun _ _ z => z))
/-- the second clause's start -/
theorem dcStart_in {acc : Value} (h0 : codeAny (model prog w) A (.compLoop (dcE kx vx t0 i0 t1 i1 ifs0 ifs1 scope pos) 1 it acc env) R s)
    (h : wpAny (model prog w) A (pyIter it) (fun it' s' => codeAny (model prog w) A (.compLoop (dcE kx vx t0 i0 t1 i1 ifs0 ifs1 scope pos) 1 it' acc env) R s') (upNoted prog w A env R) s) :
    codeAny (model prog w) A (.compStart (dcE kx vx t0 i0 t1 i1 ifs0 ifs1 scope pos) 1 it acc env) R s := by
  refine codeAny_of_tree ?_
  show wpAny _ _ ((compStart (dcE kx vx t0 i0 t1 i1 ifs0 ifs1 scope pos) 1 it acc env).onRaise (fun x => do noteFrame x env; standAt theWindowsPlace)) _ _ s
  refine wpAny_notedAt ?_
  unfold compStart
  show wpAny _ _ (ask >>= _) _ _ s
  refine wpAny_bind (wpAny_askSetting (wpAny_ite ?_))
  split
  · first
      | exact wpAny_bind (wpAny_pure (wpAny_pure (And.intro rfl h0)))
      | exact wpAny_pure (And.intro rfl h0)
  · first
      | exact wpAny_bind (wpAny_rule (wpAny_bind (wpAny_standAt (wpAny_bind (wpAny_mono h (fun it' s' h' => wpAny_pure (And.intro rfl h')) fun _ _ x => x)))))
      | (refine wpAny_bind (wpAny_rule ?_); show wpAny _ _ (standAt i1.pos >>= _) _ _ s; exact wpAny_bind (wpAny_standAt (wpAny_bind (wpAny_mono h (fun it' s' h' => wpAny_pure (And.intro rfl h')) fun _ _ x => x))))
end
section
variable {X : Cx}
/-- {k: v for target in iter if .. for target1 in iter1 if ..}: vs the block's names, vs1 those of the second target -/
def tDc2 (wi : TI) (g : TG) (tt : TT) (wi1 : TI) (g1 : TG) (tt1 : TT) (tk tv : TE) (vs vs1 : List Nat) : TE := fun σ H Q => wi σ H fun J H1 => ∀ D, H1 D = none → ∃ W : Nat → Nat → Hp → Prop, (∃ m, W 0 m (upd H1 D (.dK []))) ∧ ∀ i m H, W i m H →
  (J.stop i H ∧ Q (.ref D) H) ∨ (J.go i H ∧ ∃ Nx : Hp → Prop, (∀ H', Nx H' → ∃ m', m' < m ∧ W (i + 1) m' H') ∧ ∀ x H', J.yld i H x H' → g x (wipe σ vs) H' fun σ2 H2 => wipe σ2 vs = wipe σ vs ∧ tt σ2 H2 fun b H3 =>
    if b = true then wi1 σ2 H3 fun J1 H4 => ∃ W1 : Nat → Nat → Hp → Prop, (∃ m, W1 0 m H4) ∧ ∀ j k H, W1 j k H →
      (J1.stop j H ∧ Nx H) ∨ (J1.go j H ∧ ∃ Nx1 : Hp → Prop, (∀ H', Nx1 H' → ∃ k', k' < k ∧ W1 (j + 1) k' H') ∧ ∀ x H', J1.yld j H x H' → g1 x (wipe σ2 vs1) H' fun σ3 H5 => wipe σ3 vs1 = wipe σ2 vs1 ∧ tt1 σ3 H5 fun b H6 =>
        if b = true then tk σ3 H6 fun y H7 => tv σ3 H7 fun z H8 => ∃ kvs q, y = kV q ∧ H8 D = some (.dK kvs) ∧ kvs.length < sizeLine ∧ Nx1 (upd H8 D (.dK (putK kvs q z))) else Nx1 H6)
    else Nx H3)
theorem dc2_core {pins : List (Addr × Obj)} {s : Shared} {σ : St} {H : Hp} {Q : VK} {kx vx tg iter tg1 iter1 : Expr} {ifs ifs1 : List Expr} {scope : Scope} {own : List (Str × Nat)} {vs1 : List Nat} {pos pos' : Pos} {wi wi1 : TI} {g g1 : TG} {tt tt1 : TT} {tk tv : TE} {use : Option (Value → Sem Unit)} {Qf : Value → Shared → Prop}
    (hc : X.calm = true) (hN : X.N.Nodup) (I : Inv X pins σ H s) (hi : PI X tg iter wi) (ok : BlkOk X.N X.env.scope scope own) (hv : ∀ i ∈ vs1, i ∈ own.map (·.2)) (hg : InBlk X scope (PG · tg g)) (ht : InBlk X scope (PTs · ifs tt))
    (hk : InBlk X scope (PE · kx tk)) (he : InBlk X scope (PE · vx tv)) (hs : ∀ x, foldedSetIterable iter X.env x = pure x) (hi1 : InBlk X scope (PI · tg1 iter1 wi1)) (hg1 : InBlk X scope (PG · tg1 g1)) (ht1 : InBlk X scope (PTs · ifs1 tt1))
    (hs1 : ∀ env x, foldedSetIterable iter1 env x = pure x) (h : tDc2 wi g tt wi1 g1 tt1 tk tv (own.map (·.2)) vs1 σ H Q)
    (hRR : ∀ D C s' m H', Inv X pins σ H' s' → Q (.ref D) H' → s'.heap.Ns C m → FpOk X pins H' C → compPost (model X.prog X.w) X.A X.xe use Qf (.ref D) C (.ok .next) s') :
    wpAny (model X.prog X.w) X.A (comprehension (dcE kx vx tg iter tg1 iter1 ifs ifs1 scope pos) scope X.env pos' newDict false (eval iter X.env) use) Qf X.xe s := by
  have cl0 : ∀ y ∈ scope.names, y.2 = .free → ∃ c, X.env.cells.lookup y.1 = some c := fun y hy e => (ok.free y hy e).elim (fun k => I.ok.has _ (.inl k)) fun k => I.ok.has _ (.inr k)
  refine wpAny_comprehension_free (use := use) rfl hs (closure_ok cl0) ok.kind (fun y hy e => by rw [ok.uniq y hy, e]) (thn (hi.run pins s σ H _ I h) fun xv s1 hx => thn hx fun itv s2 h2 => ?_)
  obtain ⟨it, fp, tn, J, H2, e, I2, T, st2, f2, q⟩ := h2
  subst e
  refine wpAny_newObj_type (newEnv_comp ?_)
  generalize hD : s2.heap.objs.size = D
  have noD : H2 D = none := I2.hok.fresh (Nat.le_of_eq hD)
  obtain ⟨W, ⟨m0, w0⟩, turn⟩ := q D noD
  -- the dict that is made
  generalize es3 : ({ s2 with heap := s2.heap.push { cls := .type "dict", data := .dict #[] } } : Shared) = s3
  have hp3 : s3.heap = s2.heap.push { cls := .type "dict", data := .dict #[] } := by rw [← es3]
  have keep23 : ∀ b o, s2.heap.get? b = some o → s3.heap.get? b = some o := fun b o e => by rw [hp3]; exact Heap.get?_push_of_some _ e
  have I3 : Inv X pins σ (upd H2 D (.dK [])) s3 := by
    rw [← es3]
    refine I2.laid (t' := s2.toks) (fun b o e => Heap.get?_push_of_some _ e) (Nat.le_of_eq hD) ?_
    rw [← hD]
    exact dk_empty s2.heap I2.big
  have small : ∀ b ∈ fp, b < s2.heap.objs.size := fun b hb => let ⟨o, e, _⟩ := T.obj _ _ st2 b hb; Heap.lt_size e
  have fp3 : ∀ b ∈ fp, FpOk X pins (upd H2 D (.dK [])) b ∧ b < s3.heap.objs.size := fun b hb => by
    have lt := small b hb
    refine ⟨⟨?_, (f2 b hb).2⟩, by rw [hp3, Heap.size_push]; exact Nat.lt_succ_of_lt lt⟩
    rw [upd_ne (by rw [← hD]; exact Nat.ne_of_lt lt)]
    exact (f2 b hb).1
  have st3 : tn 0 s3.heap := T.keep _ _ _ st2 fun b _ o e => keep23 b o e
  have I4 := block_start I3 ok hN fp3
  have pg := hg s3 (upd H2 D (.dK [])) s3.heap.objs.size (cellsFrom (s3.heap.objs.size + 1) scope.names (cloFrom X.env.cells scope.names [])) fp
  have pt := ht s3 (upd H2 D (.dK [])) s3.heap.objs.size (cellsFrom (s3.heap.objs.size + 1) scope.names (cloFrom X.env.cells scope.names [])) fp
  have pk := hk s3 (upd H2 D (.dK [])) s3.heap.objs.size (cellsFrom (s3.heap.objs.size + 1) scope.names (cloFrom X.env.cells scope.names [])) fp
  have pe := he s3 (upd H2 D (.dK [])) s3.heap.objs.size (cellsFrom (s3.heap.objs.size + 1) scope.names (cloFrom X.env.cells scope.names [])) fp
  have qi := hi1 s3 (upd H2 D (.dK [])) s3.heap.objs.size (cellsFrom (s3.heap.objs.size + 1) scope.names (cloFrom X.env.cells scope.names [])) fp
  have qg := hg1 s3 (upd H2 D (.dK [])) s3.heap.objs.size (cellsFrom (s3.heap.objs.size + 1) scope.names (cloFrom X.env.cells scope.names [])) fp
  have qt := ht1 s3 (upd H2 D (.dK [])) s3.heap.objs.size (cellsFrom (s3.heap.objs.size + 1) scope.names (cloFrom X.env.cells scope.names [])) fp
  show codeAny _ _ (.compStart (dcE kx vx tg iter tg1 iter1 ifs ifs1 scope pos) 0 (.ref it) (.ref D) (compEnvC scope (cellsFrom (s3.heap.objs.size + 1) scope.names (cloFrom X.env.cells scope.names [])) s3.heap.objs.size X.env)) (compPost (model X.prog X.w) X.A X.xe use Qf (.ref D) s3.heap.objs.size) { s3 with heap := pushCells (s3.heap.push { cls := .type "dict", data := .dict #[] }) scope.names }
  have fpN : ∀ b ∈ fp, (upd H2 D (.dK [])) b = none := fun b hb => (fp3 b hb).1.1
  generalize ece : compEnvC scope (cellsFrom (s3.heap.objs.size + 1) scope.names (cloFrom X.env.cells scope.names [])) s3.heap.objs.size X.env = ce at I4 pg pt pk pe qi qg qt ⊢
  have eL : ce.locals = s3.heap.objs.size := by subst ece; rfl
  generalize eH3 : upd H2 D (.dK []) = H3 at I3 I4 pg pt pk pe qi qg qt w0 fpN fp3
  generalize es4 : ({ s3 with heap := pushCells (s3.heap.push { cls := .type "dict", data := .dict #[] }) scope.names } : Shared) = s4 at I4 ⊢
  have st4 : tn 0 s4.heap := T.keep _ _ _ st3 fun b _ o e => by rw [← es4]; exact pushCells_keeps _ _ _ _ (Heap.get?_push_of_some _ e)
  have stat : ∀ {σ' : St} {H' : Hp} {s' : Shared}, Inv (X.blk s3 H3 scope ce fp) [] σ' H' s' → (∀ b ∈ fp, H' b = none) → ∀ b ∈ fp, FpOk (X.blk s3 H3 scope ce fp) [] H' b := fun {σ' H' s'} I' hn b hb =>
    ⟨hn b hb, (I'.ok.exf b hb).1, I'.ok.exfs b hb, .inl hb, fun x c e => (I'.ok.exf b hb).2 x c e, fun p hp => absurd (show p ∈ ([] : List (Addr × Obj)) ++ [] from hp) (by simp)⟩
  have loop : codeAny (model X.prog X.w) X.A (.compLoop (dcE kx vx tg iter tg1 iter1 ifs ifs1 scope pos) 0 (.ref it) (.ref D) ce) (compPost (model X.prog X.w) X.A X.xe use Qf (.ref D) s3.heap.objs.size) s4 := by
    refine dcLoop_out (hs1 ce) (fun n s' => ∃ i H', Inv (X.blk s3 H3 scope ce fp) [] (wipe σ (own.map (·.2))) H' s' ∧ tn i s'.heap ∧ (∀ b ∈ fp, H' b = none) ∧ W i n H') ?_ m0 ⟨0, H3, I4, st4, fpN, w0⟩
    rintro n s5 ⟨i, H5, I5, st5, n5, w5⟩
    rcases turn i n H5 w5 with ⟨stop, qq⟩ | ⟨go, Nx, hNx, step⟩
    · refine thnF (T.done (X.blk s3 H3 scope ce fp) rfl rfl rfl hc i [] s5 _ H5 (fun _ _ => False) I5 (stat I5 n5) st5 stop) fun r s6 ⟨hr, I6⟩ => ?_
      subst hr
      have I7 : Inv X pins σ H5 s6 := I3.call' (ch := fp) I6.os I6.base I6.hok I6.bare fun b hb => ⟨(fp3 b hb).1.2.2.2.1, (fp3 b hb).1.2.1, (fp3 b hb).1.2.2.2.2.1, (fp3 b hb).1.2.2.2.2.2⟩
      have nC : H5 s3.heap.objs.size = none := by
        have z : H5 ce.locals = none := I6.free
        rwa [eL] at z
      obtain ⟨m, hn, _⟩ := I6.loc
      have hn : s6.heap.Ns ce.locals m := hn
      rw [eL] at hn
      exact hRR D s3.heap.objs.size s6 m H5 I7 qq hn (I3.fpOk (Nat.le_refl _) nC)
    · refine thnF (T.item (X.blk s3 H3 scope ce fp) rfl rfl rfl hc i [] s5 _ H5 (fun _ _ => False) I5 (stat I5 n5) st5 go) fun r s6 ⟨u, hr, h6⟩ => ?_
      subst hr
      refine thnF h6 fun _ s7 ⟨x, H7, I7, r7, y7, st7, n7⟩ => ?_
      refine thnF (pg.run _ s7 _ H7 x u _ (I7.pinned (stat I7 n7) (T.obj _ _ st7)) r7 (step x H7 y7)) fun _ s8 ⟨σ8, H8, I8, hw8, q8⟩ => ?_
      refine thnF (pt.run _ s8 σ8 H8 _ I8 q8) fun b s9 ⟨H9, I9, q9⟩ => ?_
      -- how the outer turn ends
      have fin : ∀ {σ9 : St} {s' : Shared} {H' : Hp}, Inv (X.blk s3 H3 scope ce fp) ([] ++ pinsAt fp s7.heap) σ9 H' s' → (wipe σ (own.map (·.2))).length = σ9.length → (∀ (j : Nat) v, (wipe σ (own.map (·.2)))[j]? = some (some v) → σ9[j]? = some (some v)) → Nx H' →
          ∃ m, m < n ∧ ∃ i H', Inv (X.blk s3 H3 scope ce fp) [] (wipe σ (own.map (·.2))) H' s' ∧ tn i s'.heap ∧ (∀ b ∈ fp, H' b = none) ∧ W i m H' := fun {σ9 s' H'} I' hl hkn nx => by
        obtain ⟨m', hm, w'⟩ := hNx H' nx
        have pinned : ∀ b ∈ fp, ∀ o, s7.heap.get? b = some o → s'.heap.get? b = some o ∧ H' b = none := fun b hb o e => by
          have z := I'.pin (b, o) (List.mem_append_right _ (List.mem_append_right _ (mem_pinsAt hb e)))
          exact ⟨z.1, z.2.1⟩
        refine ⟨m', hm, i + 1, H', (I'.unpinned (pins := [])).weak hl hkn, T.keep _ _ _ st7 fun b hb o e => (pinned b hb o e).1, fun b hb => ?_, w'⟩
        obtain ⟨o, e, _⟩ := T.obj _ _ st7 b hb
        exact (pinned b hb o e).2
      have len8 : (wipe σ (own.map (·.2))).length = σ8.length := by rw [← hw8, wipe_length]
      have know8 : ∀ (j : Nat) v, (wipe σ (own.map (·.2)))[j]? = some (some v) → σ8[j]? = some (some v) := fun j v e => by
        rw [← hw8] at e
        exact (wipe_some e).1
      have know9 : ∀ (j : Nat) v, (wipe σ (own.map (·.2)))[j]? = some (some v) → (wipe σ8 vs1)[j]? = some (some v) := fun j v e => by
        rw [← hw8] at e
        obtain ⟨e1, e2⟩ := wipe_some e
        rw [wipe_out fun z => e2 (hv j z)]
        exact e1
      match b, q9 with
      | false, q9 => exact fin I9 len8 know8 q9
      | true, q9 =>
        refine thnF (qi.run _ s9 σ8 H9 _ I9 q9) fun xv s10 hx => thnF hx fun itv s11 h11 => ?_
        obtain ⟨it1, fp1, tn1, J1, H11, e1, I11, T1, st11, f11, W1, ⟨m1, w1⟩, turn1⟩ := h11
        subst e1
        have stat1 : ∀ {H' : Hp}, (∀ b ∈ fp1, H' b = none) → ∀ b ∈ fp1, FpOk (X.blk s3 H3 scope ce fp) ([] ++ pinsAt fp s7.heap) H' b := fun hn b hb => ⟨hn b hb, (f11 b hb).2⟩
        have inner : codeAny (model X.prog X.w) X.A (.compLoop (dcE kx vx tg iter tg1 iter1 ifs ifs1 scope pos) 1 (.ref it1) (.ref D) ce)
            (fun r s' => match r with
              | .ok _ => ∃ m, m < n ∧ ∃ i H', Inv (X.blk s3 H3 scope ce fp) [] (wipe σ (own.map (·.2))) H' s' ∧ tn i s'.heap ∧ (∀ b ∈ fp, H' b = none) ∧ W i m H'
              | .error _ => False) s11 := by
          refine dcLoop_in (fun k s' => ∃ j H', Inv (X.blk s3 H3 scope ce fp) ([] ++ pinsAt fp s7.heap) (wipe σ8 vs1) H' s' ∧ tn1 j s'.heap ∧ (∀ b ∈ fp1, H' b = none) ∧ W1 j k H') ?_ m1 ⟨0, H11, I11.weak (wipe_length _ _) (fun j v e => (wipe_some e).1), st11, fun b hb => (f11 b hb).1, w1⟩
          rintro k s12 ⟨j, H12, I12, st12, n12, w12⟩
          rcases turn1 j k H12 w12 with ⟨stop1, nx1⟩ | ⟨go1, Nx1, hNx1, step1⟩
          · refine thnF (T1.done (X.blk s3 H3 scope ce fp) rfl rfl rfl hc j _ s12 (wipe σ8 vs1) H12 (fun _ _ => False) I12 (stat1 n12) st12 stop1) fun r s13 ⟨hr, I13⟩ => ?_
            subst hr
            exact fin I13 (len8.trans (wipe_length σ8 vs1).symm) know9 nx1
          · refine thnF (T1.item (X.blk s3 H3 scope ce fp) rfl rfl rfl hc j _ s12 (wipe σ8 vs1) H12 (fun _ _ => False) I12 (stat1 n12) st12 go1) fun r s13 ⟨u1, hr, h13⟩ => ?_
            subst hr
            refine thnF h13 fun _ s14 ⟨x1, H14, I14, r14, y14, st14, n14⟩ => ?_
            refine thnF (qg.run _ s14 (wipe σ8 vs1) H14 x1 u1 _ (I14.pinned (stat1 n14) (T1.obj _ _ st14)) r14 (step1 x1 H14 y14)) fun _ s15 ⟨σ15, H15, I15, hw15, q15⟩ => ?_
            refine thnF (qt.run _ s15 σ15 H15 _ I15 q15) fun b1 s16 ⟨H16, I16, q16⟩ => ?_
            have fin1 : ∀ {s' : Shared} {H' : Hp}, Inv (X.blk s3 H3 scope ce fp) (([] ++ pinsAt fp s7.heap) ++ pinsAt fp1 s14.heap) σ15 H' s' → Nx1 H' → ∃ m, m < k ∧ ∃ j H', Inv (X.blk s3 H3 scope ce fp) ([] ++ pinsAt fp s7.heap) (wipe σ8 vs1) H' s' ∧ tn1 j s'.heap ∧ (∀ b ∈ fp1, H' b = none) ∧ W1 j m H' := fun {s' H'} I' nx => by
              obtain ⟨m', hm, w'⟩ := hNx1 H' nx
              have pinned : ∀ b ∈ fp1, ∀ o, s14.heap.get? b = some o → s'.heap.get? b = some o ∧ H' b = none := fun b hb o e => by
                have z := I'.pin (b, o) (List.mem_append_right _ (List.mem_append_right _ (mem_pinsAt hb e)))
                exact ⟨z.1, z.2.1⟩
              refine ⟨m', hm, j + 1, H', I'.unpinned.weak (by rw [← hw15, wipe_length]) (fun j v e => by rw [← hw15] at e; exact (wipe_some e).1), T1.keep _ _ _ st14 fun b hb o e => (pinned b hb o e).1, fun b hb => ?_, w'⟩
              obtain ⟨o, e, _⟩ := T1.obj _ _ st14 b hb
              exact (pinned b hb o e).2
            match b1, q16 with
            | false, q16 => exact fin1 I16 q16
            | true, q16 =>
              refine thnF (pk.run _ s16 σ15 H16 _ I16 q16) fun z s17 ⟨yk, H17, I17, r17, q17⟩ => ?_
              refine thnF (pe.run _ s17 σ15 H17 _ I17 q17) fun z2 s18 ⟨yv, H18, I18, r18, kvs, qk, ek, hD18, hz18, nx⟩ => ?_
              subst ek
              exact d_dictSet (X := X.blk s3 H3 scope ce fp) I18 hD18 hz18 r17 r18 fun s19 I19 => fin1 I19 nx
        exact dcStart_in inner (T1.self X.A 0 _ _ _ st11 inner)
  exact codeAny_compStart_dict loop (T.self X.A 0 _ _ _ st4 loop)
/-- {..} of two clauses as a value -/
theorem pe_dc2 {kx vx tg iter tg1 iter1 : Expr} {ifs ifs1 : List Expr} {scope : Scope} {own : List (Str × Nat)} {vs1 : List Nat} {pos : Pos} {wi wi1 : TI} {g g1 : TG} {tt tt1 : TT} {tk tv : TE} (hc : X.calm = true) (hN : X.N.Nodup) (hi : PI X tg iter wi) (ok : BlkOk X.N X.env.scope scope own) (hv : ∀ i ∈ vs1, i ∈ own.map (·.2))
    (hg : InBlk X scope (PG · tg g)) (ht : InBlk X scope (PTs · ifs tt)) (hi1 : InBlk X scope (PI · tg1 iter1 wi1)) (hg1 : InBlk X scope (PG · tg1 g1)) (ht1 : InBlk X scope (PTs · ifs1 tt1)) (hk : InBlk X scope (PE · kx tk)) (he : InBlk X scope (PE · vx tv))
    (hs : ∀ x, foldedSetIterable iter X.env x = pure x := by intro _; rfl) (hs1 : ∀ env x, foldedSetIterable iter1 env x = pure x := by intro _ _; rfl) :
    PE X (.DictComp kx vx [⟨tg, iter, ifs, 0⟩, ⟨tg1, iter1, ifs1, 0⟩] scope pos) (tDc2 wi g tt wi1 g1 tt1 tk tv (own.map (·.2)) vs1) := by
  constructor
  intro pins s σ H Q I h
  rw [arm_eval_DictComp]
  refine dc2_core hc hN I hi ok hv hg ht hk he hs hi1 hg1 ht1 hs1 h fun D C s' m H' I' q hn f => ⟨m, hn, fun h'' sb => ?_⟩
  obtain ⟨f0, f1, f2, f3, f4, f5⟩ := f
  exact ⟨.ref D, H', I'.turned (t' := s'.toks) (fun b o hb e => (sb.2 b hb).trans e) f0 f1 f3 f4 f5, rfl, q⟩
/-- name = {..} on one line, the name a local -/
theorem ps_setDc {i : Nat} {y : Str} {py : Pos} {kx vx tg iter : Expr} {ifs : List Expr} {scope : Scope} {own : List (Str × Nat)} {pos spos : Pos} {wi : TI} {g : TG} {tt : TT} {tk tv : TE} (hc : X.calm = true) (hN : X.N.Nodup) (hy : X.N[i]? = some y) (hyl : X.env.scope.names.lookup y = some .local)
    (hsw : swapsWith (.DictComp kx vx [⟨tg, iter, ifs, 0⟩] scope pos) (some (.Name y py)) spos.line X.env = pure true) (hi : PI X tg iter wi) (ok : BlkOk X.N X.env.scope scope own)
    (hg : InBlk X scope (PG · tg g)) (ht : InBlk X scope (PTs · ifs tt)) (hk : InBlk X scope (PE · kx tk)) (he : InBlk X scope (PE · vx tv)) (hs : ∀ x, foldedSetIterable iter X.env x = pure x := by intro _; rfl) :
    PS X (.Assign [.Name y py] (.DictComp kx vx [⟨tg, iter, ifs, 0⟩] scope pos) spos) (tAsg (tDc wi g tt tk tv (own.map (·.2))) (gName i)) := by
  constructor
  intro pins s σ H D I h
  rw [exec_Assign_Name_used _ _ _ _ hsw]
  refine wpAny_bind (wpAny_standAt (wpAny_bind ?_))
  show wpAny _ X.A (do let _ ← comprehension (.DictComp kx vx [⟨tg, iter, ifs, 0⟩] scope pos) scope X.env (firstIterPos [⟨tg, iter, ifs, 0⟩] pos) newDict false (eval iter X.env) (some (assign (.Name y py) X.env))) _ _ s
  have h' : tDc wi g tt tk tv (own.map (·.2)) σ H (fun x H1 => gName i x σ H1 D.nx) := h
  refine wpAny_bind (thn (dc_core (Qf := fun _ s' => SP X pins D .next s') hc hN I hi ok hg ht hk he hs h' fun L C s' m H' I' q hn f => ?_) fun _ s' hq => wpAny_pure (wpAny_pure hq))
  show wpAny _ _ (assign (.Name y py) X.env (.ref L)) _ _ _
  obtain ⟨f0, f1, f2, f3, f4, f5⟩ := f
  refine wpAny_assign_Name (store_ok2 (v := V.ref L) I' hN hy (.inl hyl) rfl (fun s2 I2 ⟨a, sb, ha⟩ => ?_) (.inr hyl))
  have ne : C ≠ a := by
    rcases ha with z | z
    · rw [z]; exact f1
    · exact fun e => f4 y a z e.symm
  exact ⟨m, hn.sameBut sb ne, fun h3 sb3 => ⟨_, H', I2.turned (t' := s2.toks) (fun b o hb e => (sb3.2 b hb).trans e) f0 f1 f3 f4 f5, q⟩⟩
/-- name = {..}: the model stores it within the block's frame -/
theorem sw_trueD {kx vx : Expr} {gs : List Comprehension} {scope : Scope} {pos py : Pos} {y : Str} {l : Nat} {env : Env} (hk : env.scope.kind = .function) (hy : env.scope.names.lookup y = some .local) (hl : (py.line == pos.line) = true)
    (ha : (scope.names.any fun (n, k) => n == y && (k == .local || k == .cell)) = false) : swapsWith (.DictComp kx vx gs scope pos) (some (.Name y py)) l env = pure true := by
  have ky : env.kindOf y = some .local := hy
  have hb : env.blockKind = .function := by unfold Env.blockKind; rw [hk]; rfl
  unfold swapsWith
  simp only [hb, ky, ha, Expr.pos, hl]
  rfl
end
end L2
/-! Comprehensions over lists of ints whose steps store nothing but new objects; dicts whose keys are ints; equality of lists of ints as data. -/
namespace L2
open PySem PySem.Spec PyProof.Rows
/-! ### heaps -/
theorem Same.new {H : Hp} {p : Addr} {o : HO} (h : H p = none) : Same H (upd H p o) := fun b u e => by
  rw [upd_ne (ne_of_none e h)]
  exact e
theorem Same.put {H H' : Hp} {p : Addr} {o : HO} (s : Same H H') (h : H p = none) : Same H (upd H' p o) := fun b u e => by
  rw [upd_ne (ne_of_none e h)]
  exact s b u e
theorem Same.up {H H' : Hp} {p : Addr} {o : HO} (s : Same H H') (h : H' p = none) : Same H (upd H' p o) := s.trans (Same.new h)
theorem Same.at {H : Hp} {p a : Addr} {o u : HO} (h : H p = none) (e : H a = some u) : (upd H p o) a = some u := Same.new h a u e
theorem Same.rd {H H' : Hp} {a : Addr} {u : HO} (s : Same H H') (r : Rd H a u) : Rd H' a u := r.imp (fun h => s a _ h) fun ⟨o, h⟩ => ⟨o, s a _ h⟩
theorem Same.seqT {K : PySem.W.Frag} {H H' : Hp} {a : Addr} {xs : List V} (s : Same H H') (h : SqT K H a xs) : SqT K H' a xs := h.imp (fun h => s.rd h) id
theorem Same.frz {H : Hp} {d : Addr} {o : Obj} {u : HO} {H' : Hp} (s : Same (upd H d (.frz o u)) H') (hd : H d = some u) : Same H (upd H' d u) := fun b v e => by
  by_cases q : b = d
  · subst q
    rw [upd_same, ← hd, e]
  · rw [upd_ne q]
    exact s b v (by rw [upd_ne q]; exact e)
/-! ### lists of ints -/
theorem sub_len : ∀ {m l : List Int}, m.Nodup → (∀ x ∈ m, x ∈ l) → m.length ≤ l.length
  | [], l, _, _ => Nat.zero_le _
  | x :: m, l, nd, h => by
    have hx := h x List.mem_cons_self
    have p := List.perm_cons_erase hx
    have nd' := List.nodup_cons.mp nd
    have := sub_len (m := m) (l := l.erase x) nd'.2 fun y hy => (List.mem_erase_of_ne (fun e => nd'.1 (by rw [← e]; exact hy))).mpr (h y (List.mem_cons_of_mem _ hy))
    have e := p.length_eq
    simp only [List.length_cons] at e ⊢
    omega
theorem sub_perm : ∀ {m l : List Int}, m.Nodup → (∀ x ∈ m, x ∈ l) → l.length ≤ m.length → m.Perm l
  | [], l, _, _, hl => by
    have : l = [] := List.length_eq_zero_iff.mp (Nat.le_zero.mp hl)
    subst this
    exact .refl _
  | x :: m, l, nd, h, hl => by
    have hx := h x List.mem_cons_self
    have p := List.perm_cons_erase hx
    have nd' := List.nodup_cons.mp nd
    have e := p.length_eq
    simp only [List.length_cons] at e hl
    have := sub_perm (m := m) (l := l.erase x) nd'.2 (fun y hy => (List.mem_erase_of_ne (fun e => nd'.1 (by rw [← e]; exact hy))).mpr (h y (List.mem_cons_of_mem _ hy))) (by omega)
    exact (List.Perm.cons x this).trans p.symm
theorem sub_nodup {m l : List Int} (nd : m.Nodup) (h : ∀ x ∈ m, x ∈ l) (hl : l.length ≤ m.length) : l.Nodup ∧ ∀ x ∈ l, x ∈ m := by
  have p := sub_perm nd h hl
  exact ⟨p.nodup_iff.mp nd, fun x hx => p.mem_iff.mpr hx⟩
theorem inV_ints {n : Int} : ∀ {ns : List Int}, inV (.int n) (ns.map V.int) = decide (n ∈ ns)
  | [] => rfl
  | m :: ns => by
    have ih := inV_ints (n := n) (ns := ns)
    unfold inV at ih ⊢
    rw [List.map_cons, List.any_cons, ih]
    show (decide (m = n) || _) = _
    rw [Bool.eq_iff_iff]
    simp only [Bool.or_eq_true, decide_eq_true_eq, List.mem_cons]
    exact ⟨fun h => h.imp Eq.symm id, fun h => h.imp Eq.symm id⟩
theorem flat_ints (ns : List Int) : (ns.map V.int).all flatV = true := by
  rw [List.all_map]
  exact List.all_eq_true.mpr fun _ _ => rfl
abbrev dInts (ns : List Int) : List PyData := ns.map PyData.int
theorem dp_ints {K : PySem.W.Frag} {H : Hp} : ∀ ns : List Int, DpAll K H (ns.map V.int) (dInts ns)
  | [] => .nil
  | n :: ns => .cons (.int n) (dp_ints ns)
theorem eqvAll_ints : ∀ ns ms : List Int, PyData.eqvAll (dInts ns) (dInts ms) = decide (ns = ms)
  | [], [] => by simp [dInts, PyData.eqvAll]
  | [], _ :: _ => by simp [dInts, PyData.eqvAll]
  | _ :: _, [] => by simp [dInts, PyData.eqvAll]
  | n :: ns, m :: ms => by
    have ih := eqvAll_ints ns ms
    show (PyData.eqv (.int n) (.int m) && PyData.eqvAll (dInts ns) (dInts ms)) = _
    rw [ih, Bool.eq_iff_iff]
    simp [PyData.eqv]
theorem eqv_list (ns ms : List Int) : PyData.eqv (.list (dInts ns)) (.list (dInts ms)) = decide (ns = ms) := by
  show PyData.eqvAll _ _ = _
  exact eqvAll_ints ns ms
theorem canLay_ints : ∀ ns : List Int, PyData.canLayAll0 (dInts ns) = true
  | [] => rfl
  | n :: ns => by
    show (PyData.canLay0 (.int n) && PyData.canLayAll0 (dInts ns)) = true
    rw [canLay_ints ns]
    rfl
theorem depth_ints : ∀ ns : List Int, PyData.depthAll (dInts ns) ≤ 1
  | [] => by unfold dInts; rw [List.map_nil, PyData.depthAll]; omega
  | n :: ns => by
    have := depth_ints ns
    unfold dInts at this ⊢
    rw [List.map_cons, PyData.depthAll, PyData.depth]
    omega
theorem shaped_list (ns : List Int) : SeqAt.shaped (.list (dInts ns)) = true := by
  have h := depth_ints ns
  have c := canLay_ints ns
  unfold SeqAt.shaped
  rw [PyData.canLay0, PyData.depth, c]
  simp
  omega
theorem shaped_tup (ns : List Int) : SeqAt.shaped (.tuple (dInts ns)) = true := by
  have h := depth_ints ns
  have c := canLay_ints ns
  unfold SeqAt.shaped
  rw [PyData.canLay0, PyData.depth, c]
  simp
  omega
/-! ### dicts with int keys -/
abbrev ikv (ps : List (Int × V)) : List (Key × V) := ps.map fun p => (Sum.inl p.1, p.2)
theorem valV_ikv {n : Int} : ∀ {ps : List (Int × V)}, valV (ikv ps) (Sum.inl n) = ps.lookup n
  | [] => rfl
  | (m, v) :: ps => by
    by_cases e : m = n
    · subst e
      show valV ((Sum.inl m, v) :: ikv ps) _ = _
      rw [valV_pos rfl]
      simp [List.lookup]
    · have q : ¬ ((Sum.inl m : Key) = Sum.inl n) := fun h => e (Sum.inl.inj h)
      show valV ((Sum.inl m, v) :: ikv ps) _ = _
      rw [valV_neg q, valV_ikv]
      have : (n == m) = false := by simpa using fun h : n = m => e h.symm
      simp [List.lookup, this]
theorem putK_ikv {n : Int} {v : V} {ps : List (Int × V)} (h : ps.lookup n = none) : putK (ikv ps) (Sum.inl n) v = ikv (ps ++ [(n, v)]) := by
  rw [putK_new v (by rw [valV_ikv]; exact h)]
  show _ = List.map _ _
  rw [List.map_append]
  rfl
theorem dropK_ikv {n : Int} {ps : List (Int × V)} : dropK (ikv ps) (Sum.inl n) = ikv (ps.filter fun p => decide (p.1 ≠ n)) := by
  unfold dropK ikv
  rw [List.filter_map]
  congr 1
  refine List.filter_congr fun p _ => ?_
  show decide _ = decide _
  rw [Bool.eq_iff_iff]
  simp
/-- a dict whose keys are ns, its values True -/
abbrev IK (ns : List Int) : List (Key × V) := ikv (ns.map fun n => (n, V.bl true))
theorem lookup_IK {n : Int} : ∀ {ns : List Int}, (ns.map fun n => (n, V.bl true)).lookup n = if n ∈ ns then some (V.bl true) else none
  | [] => rfl
  | m :: ns => by
    have ih := lookup_IK (n := n) (ns := ns)
    rw [List.map_cons]
    by_cases e : n = m
    · subst e
      simp [List.lookup]
    · have : (n == m) = false := by simpa using e
      simp only [List.lookup, this, ih, List.mem_cons, e, false_or]
theorem valV_IK {n : Int} {ns : List Int} : valV (IK ns) (Sum.inl n) = if n ∈ ns then some (V.bl true) else none := by rw [valV_ikv, lookup_IK]
theorem putK_IK {n : Int} {ns : List Int} (h : n ∉ ns) : putK (IK ns) (Sum.inl n) (V.bl true) = IK (ns ++ [n]) := by
  rw [putK_ikv (by rw [lookup_IK, if_neg h])]
  show _ = ikv (List.map _ _)
  rw [List.map_append]
  rfl
theorem putK_IK_old {n : Int} {ns : List Int} (h : n ∈ ns) : putK (IK ns) (Sum.inl n) (V.bl true) = IK ns := by
  unfold putK
  rw [valV_any, valV_IK, if_pos h]
  rw [Option.isSome_some, if_pos rfl]
  refine (List.map_congr_left (g := id) fun kv hkv => ?_).trans (List.map_id _)
  obtain ⟨p, hp, rfl⟩ := List.mem_map.mp hkv
  obtain ⟨q, hq, rfl⟩ := List.mem_map.mp hp
  show (if _ then _ else _) = _
  split <;> rfl
theorem dropK_IK {n : Int} {ns : List Int} : dropK (IK ns) (Sum.inl n) = IK (ns.filter fun m => decide (m ≠ n)) := by
  rw [dropK_ikv, List.filter_map]
  rfl
theorem IK_len (ns : List Int) : (IK ns).length = ns.length := by unfold IK ikv; rw [List.length_map, List.length_map]
/-! ### walks over ints -/
section
variable {K : PySem.W.Frag} {a d : Addr} {o : Obj} {ns : List Int}
theorem walkI_list : Walk (Itl K a) ns.length (fun H => SqL K H a (ns.map V.int)) (YAt (ns.map V.int)) := by
  have w := walk_list (K := K) (a := a) (xs := ns.map V.int)
  rwa [List.length_map] at w
theorem walkI_tup : Walk (Itt K a) ns.length (fun H => SqT K H a (ns.map V.int)) (YAt (ns.map V.int)) := by
  have w := walk_tup (K := K) (a := a) (xs := ns.map V.int)
  rwa [List.length_map] at w
theorem IK_keys (ms : List Int) : (ms.map fun n => (n, V.bl true)).map (·.1) = ms := by
  rw [List.map_map]
  exact List.map_id ms
theorem walkI_keys {ps : List (Int × V)} : Walk (Itk d o (ikv ps)) (ps.map (·.1)).length (fun H => H d = some (.frz o (.dK (ikv ps)))) (YAt ((ps.map (·.1)).map V.int)) := by
  have w := walk_keys (d := d) (o := o) (kvs := ikv ps)
  rw [List.length_map] at w ⊢
  refine w.mono (fun _ h => h) fun i H x H' hi _ ⟨e, k, v, hk, ex⟩ => ⟨e, ?_⟩
  rw [List.getElem?_map] at hk
  cases q : ps[i]? with
  | none => rw [q] at hk; cases hk
  | some p =>
    rw [q] at hk
    cases hk
    subst ex
    rw [List.map_map, List.getElem?_map, q]
    rfl
theorem walkI_IK : Walk (Itk d o (IK ns)) ns.length (fun H => H d = some (.frz o (.dK (IK ns)))) (YAt (ns.map V.int)) := by
  have w := walkI_keys (d := d) (o := o) (ps := ns.map fun n => (n, V.bl true))
  rwa [IK_keys] at w
end
/-- [f n for n in .. if keep n], the steps laying new objects alone -/
theorem lcF {J : It} {G : Hp → Prop} {ns : List Int} (w : Walk J ns.length G (YAt (ns.map V.int))) {g : TG} {tt : TT} {te : TE} {vs : List Nat} {σ : St} {H1 : Hp} {D : Addr} {Qd : Hp → Prop} (keep : Int → Bool) (f : Int → V) (nD : H1 D = none) (hz : ns.length < sizeLine)
    (hG : ∀ H, Same H1 H → G H)
    (each : ∀ (n : Int) (H : Hp) (acc : List V) (N : Hp → Prop), n ∈ ns → Same H1 H → H D = some (.lst acc) → acc.length < sizeLine → (keep n = true → ∀ H', Same H H' → N (upd H' D (.lst (acc ++ [f n])))) → (keep n = false → ∀ H', Same H H' → N H') →
      g (.int n) (wipe σ vs) H fun σ2 H2 => wipe σ2 vs = wipe σ vs ∧ tt σ2 H2 fun b H3 =>
      if b = true then te σ2 H3 fun y H4 => ∃ acc, H4 D = some (.lst acc) ∧ acc.length < sizeLine ∧ N (upd H4 D (.lst (acc ++ [y]))) else N H3)
    (hd : ∀ H, Same H1 H → H D = some (.lst ((ns.filter keep).map f)) → Qd H) :
    ∃ W : Nat → Nat → Hp → Prop, (∃ m, W 0 m (upd H1 D (.lst []))) ∧ ∀ i m H, W i m H →
      (J.stop i H ∧ Qd H) ∨ (J.go i H ∧ ∃ Nx : Hp → Prop, (∀ H', Nx H' → ∃ m', m' < m ∧ W (i + 1) m' H') ∧ ∀ x H', J.yld i H x H' → g x (wipe σ vs) H' fun σ2 H2 => wipe σ2 vs = wipe σ vs ∧ tt σ2 H2 fun b H3 =>
        if b = true then te σ2 H3 fun y H4 => ∃ acc, H4 D = some (.lst acc) ∧ acc.length < sizeLine ∧ Nx (upd H4 D (.lst (acc ++ [y]))) else Nx H3) := by
  refine lc_it w (fun i H => Same H1 H ∧ H D = some (.lst (((ns.take i).filter keep).map f))) ⟨Same.new nD, by rw [upd_same]; rfl⟩ (fun i H _ p => hG H p.1) ?_ (fun H p => hd H p.1 (by rw [p.2, List.take_length]))
  rintro i x H H' hi ⟨s, e⟩ ⟨rfl, hx⟩
  rw [List.getElem?_map] at hx
  have hn : ns[i]? = some ns[i] := List.getElem?_eq_getElem hi
  rw [hn] at hx
  cases hx
  have ht : ns.take (i + 1) = ns.take i ++ [ns[i]] := by rw [List.take_succ, hn]; rfl
  have hl : (((ns.take i).filter keep).map f).length < sizeLine := by
    rw [List.length_map]
    have h1 := List.length_filter_le keep (ns.take i)
    have h2 : (ns.take i).length ≤ ns.length := by rw [List.length_take]; omega
    omega
  refine each ns[i] H' _ _ (List.getElem_mem hi) s e hl (fun hk H2 s2 => ⟨(s.trans s2).put nD, ?_⟩) (fun hk H2 s2 => ⟨s.trans s2, ?_⟩)
  · rw [upd_same, ht, List.filter_append, List.map_append]
    simp [hk]
  · rw [s2 _ _ e, ht, List.filter_append, List.map_append]
    simp [hk]
/-- a walk over ints, by an invariant of turn and heap, whatever a step is -/
theorem goI {J : It} {G : Hp → Prop} {ns : List Int} (w : Walk J ns.length G (YAt (ns.map V.int))) {B : V → Hp → (Hp → Prop) → Prop} {H0 : Hp} {Qd : Hp → Prop} (Pv : Nat → Hp → Prop) (h0 : Pv 0 H0) (hG : ∀ i H, i ≤ ns.length → Pv i H → G H)
    (hs : ∀ i (h : i < ns.length) H, Pv i H → B (.int ns[i]) H (Pv (i + 1))) (hd : ∀ H, Pv ns.length H → Qd H) :
    ∃ W : Nat → Nat → Hp → Prop, (∃ m, W 0 m H0) ∧ ∀ i m H, W i m H →
      (J.stop i H ∧ Qd H) ∨ (J.go i H ∧ ∃ Nx : Hp → Prop, (∀ H', Nx H' → ∃ m', m' < m ∧ W (i + 1) m' H') ∧ ∀ x H', J.yld i H x H' → B x H' Nx) := by
  refine ⟨fun i m H => m = ns.length - i ∧ i ≤ ns.length ∧ Pv i H, ⟨ns.length, rfl, Nat.zero_le _, h0⟩, ?_⟩
  rintro i m H ⟨rfl, hi, p⟩
  have q := hG i H hi p
  by_cases hlt : i < ns.length
  · refine .inr ⟨w.goes i H hlt q, Pv (i + 1), fun H' p' => ⟨ns.length - (i + 1), by omega, rfl, hlt, p'⟩, fun x H' y => ?_⟩
    obtain ⟨rfl, hx⟩ := w.yields i H x H' hlt q y
    rw [List.getElem?_map, List.getElem?_eq_getElem hlt] at hx
    cases hx
    exact hs i hlt H' p
  · have e : i = ns.length := by omega
    subst e
    exact .inl ⟨w.stops H q, hd H p⟩
/-- {n: True for n in .. if keep n}, the steps laying new objects alone -/
theorem dcF {J : It} {G : Hp → Prop} {ns : List Int} (w : Walk J ns.length G (YAt (ns.map V.int))) {g : TG} {tt : TT} {tk tv : TE} {vs : List Nat} {σ : St} {H1 : Hp} {D : Addr} {Qd : Hp → Prop} (keep : Int → Bool) (nD : H1 D = none) (hz : ns.length < sizeLine)
    (hG : ∀ H, Same H1 H → G H)
    (each : ∀ (n : Int) (H : Hp) (ms : List Int) (N : Hp → Prop), n ∈ ns → Same H1 H → H D = some (.dK (IK ms)) → (IK ms).length < sizeLine → (keep n = true → ∀ H', Same H H' → N (upd H' D (.dK (putK (IK ms) (Sum.inl n) (.bl true))))) → (keep n = false → ∀ H', Same H H' → N H') →
      g (.int n) (wipe σ vs) H fun σ2 H2 => wipe σ2 vs = wipe σ vs ∧ tt σ2 H2 fun b H3 =>
      if b = true then tk σ2 H3 fun y H4 => tv σ2 H4 fun z H5 => ∃ kvs k, y = kV k ∧ H5 D = some (.dK kvs) ∧ kvs.length < sizeLine ∧ N (upd H5 D (.dK (putK kvs k z))) else N H3)
    (hd : ∀ H ms, Same H1 H → H D = some (.dK (IK ms)) → ms.Nodup → ms.length ≤ ns.length → (∀ x, x ∈ ms ↔ x ∈ ns ∧ keep x = true) → Qd H) :
    ∃ W : Nat → Nat → Hp → Prop, (∃ m, W 0 m (upd H1 D (.dK []))) ∧ ∀ i m H, W i m H →
      (J.stop i H ∧ Qd H) ∨ (J.go i H ∧ ∃ Nx : Hp → Prop, (∀ H', Nx H' → ∃ m', m' < m ∧ W (i + 1) m' H') ∧ ∀ x H', J.yld i H x H' → g x (wipe σ vs) H' fun σ2 H2 => wipe σ2 vs = wipe σ vs ∧ tt σ2 H2 fun b H3 =>
        if b = true then tk σ2 H3 fun y H4 => tv σ2 H4 fun z H5 => ∃ kvs k, y = kV k ∧ H5 D = some (.dK kvs) ∧ kvs.length < sizeLine ∧ Nx (upd H5 D (.dK (putK kvs k z))) else Nx H3) := by
  refine goI w (fun i H => Same H1 H ∧ ∃ ms, H D = some (.dK (IK ms)) ∧ ms.Nodup ∧ ms.length ≤ i ∧ ∀ x, x ∈ ms ↔ x ∈ ns.take i ∧ keep x = true) ⟨Same.new nD, [], upd_same, List.nodup_nil, Nat.le_refl _, fun x => ⟨fun z => (by cases z), fun z => (by cases z.1)⟩⟩ (fun i H _ p => hG H p.1) ?_ (fun H p => ?_)
  · rintro i hi H ⟨s, ms, e, nd, hl, hm⟩
    have ht : ∀ x, x ∈ ns.take (i + 1) ↔ x ∈ ns.take i ∨ x = ns[i] := fun x => by
      rw [List.take_succ, List.getElem?_eq_getElem hi, Option.toList_some, List.mem_append, List.mem_singleton]
    refine each ns[i] H ms _ (List.getElem_mem hi) s e (by rw [IK_len]; omega) (fun hk H2 s2 => ⟨(s.trans s2).put nD, ?_⟩) (fun hk H2 s2 => ⟨s.trans s2, ms, s2 _ _ e, nd, by omega, fun x => ?_⟩)
    · by_cases hin : ns[i] ∈ ms
      · refine ⟨ms, by rw [upd_same, putK_IK_old hin], nd, by omega, fun x => ?_⟩
        rw [hm, ht]
        constructor
        · exact fun z => ⟨.inl z.1, z.2⟩
        · rintro ⟨z | z, z2⟩
          · exact ⟨z, z2⟩
          · subst z; exact (hm _).mp hin
      · refine ⟨ms ++ [ns[i]], by rw [upd_same, putK_IK hin], ?_, by rw [List.length_append]; simp; omega, fun x => ?_⟩
        · rw [List.nodup_append]
          exact ⟨nd, by simp, fun a ha b hb => by rw [List.mem_singleton.mp hb]; intro z; subst z; exact hin ha⟩
        · rw [List.mem_append, List.mem_singleton, hm, ht]
          constructor
          · rintro (z | z)
            · exact ⟨.inl z.1, z.2⟩
            · subst z; exact ⟨.inr rfl, hk⟩
          · rintro ⟨z | z, z2⟩
            · exact .inl ⟨z, z2⟩
            · exact .inr z
    · rw [hm, ht]
      constructor
      · exact fun z => ⟨.inl z.1, z.2⟩
      · rintro ⟨z | z, z2⟩
        · exact ⟨z, z2⟩
        · subst z; rw [hk] at z2; cases z2
  · obtain ⟨s, ms, e, nd, hl, hm⟩ := p
    rw [List.take_length] at hm
    exact hd H ms s e nd hl hm
/-! ### a list or a tuple, as it comes -/
section
variable {X : Cx} {K : PySem.W.Frag} {e tg : Expr} {te : TE}
/-- the ints ns stand at a, in a list or a tuple -/
def Sq (K : PySem.W.Frag) (H : Hp) (a : Addr) (ns : List Int) : Prop := SqL K H a (ns.map V.int) ∨ SqT K H a (ns.map V.int)
theorem Same.sq {H H' : Hp} {a : Addr} {ns : List Int} (s : Same H H') (h : Sq K H a ns) : Sq K H' a ns := h.imp (fun h => s.seq h) (fun h => s.seqT h)
@[irreducible] def iSq (K : PySem.W.Frag) (te : TE) : TI := fun σ H R => te σ H fun x H1 => ∃ a, x = .ref a ∧ (((∃ xs, SqL K H1 a xs) ∧ R (Itl K a) H1) ∨ ((∃ xs, SqT K H1 a xs) ∧ R (Itt K a) H1))
theorem pi_sq (he : PE X e te) : PI X tg e (iSq X.K te) := by
  constructor
  intro pins s σ H R I h
  unfold iSq at h
  refine thn (he.run pins s σ H _ I h) fun u s1 hh => ?_
  obtain ⟨x, H1, I1, rx, a, ex, q⟩ := hh
  subst ex
  obtain rfl : u = Value.ref a := rx
  have new : ∀ b ∈ [s1.heap.objs.size], FpOk X pins H1 b := fun b hb => by
    rw [List.mem_singleton.mp hb]
    exact I1.fpOk (Nat.le_refl _) (I1.hok.fresh (Nat.le_refl _))
  rcases q with ⟨⟨xs, hq⟩, q⟩ | ⟨⟨xs, hq⟩, q⟩
  · obtain ⟨its, _, pl, _⟩ := I1.list hq
    exact wpAny_pyIter_list pl.isList ⟨_, _, _, _, H1, rfl, I1.kept (t' := s1.toks) fun b o z => Heap.get?_push_of_some _ z, turn_list a _, ⟨_, Heap.get?_push_size _ rfl, rfl, rfl⟩, new, q⟩
  · obtain ⟨its, _, pl, _⟩ := I1.tuple hq
    exact wpAny_pyIter_tuple (show s1.heap.IsTuple a its.toArray from pl) ⟨_, _, _, _, H1, rfl, I1.kept (t' := s1.toks) fun b o z => Heap.get?_push_of_some _ z, turn_tuple a _, ⟨_, Heap.get?_push_size _ rfl, rfl, rfl⟩, new, q⟩
theorem sq_walk {σ : St} {H : Hp} {R : It → Hp → Prop} {a : Addr} {ns : List Int} {i : Nat} (hi : σ[i]? = some (some (.ref a))) (h : Sq K H a ns) (k : ∀ J, Walk J ns.length (fun H' => Sq K H' a ns ∧ Same H H') (YAt (ns.map V.int)) → R J H) : iSq K (tVar i) σ H R := by
  unfold iSq
  refine ⟨_, hi, a, rfl, ?_⟩
  rcases h with h | h
  · exact .inl ⟨⟨_, h⟩, k _ (walkI_list.mono (fun H' z => z.2.seq h) fun _ _ _ _ _ _ y => y)⟩
  · exact .inr ⟨⟨_, h⟩, k _ (walkI_tup.mono (fun H' z => z.2.seqT h) fun _ _ _ _ _ _ y => y)⟩
end
/-- d == {} and d != {}: a dict by its length against the empty one -/
theorem ikv_nil {ps : List (Int × V)} : ikv ps = [] ↔ ps = [] := by unfold ikv; exact List.map_eq_nil_iff
end L2
/-! Calls of built-in names in short: c_len e and so on; statements on local names. -/
namespace L2
open PySem PySem.Spec PyProof.Rows
/-- the built-in names that the module leaves as they are -/
structure Blt (mg : Str → Option Value) : Prop where
  len : mg "len" = none
  abs : mg "abs" = none
  int : mg "int" = none
  range : mg "range" = none
  sorted : mg "sorted" = none
  set : mg "set" = none
  list : mg "list" = none
  tuple : mg "tuple" = none
  repr : mg "repr" = none
  max : mg "max" = none
  min : mg "min" = none
  isinstance : mg "isinstance" = none
  all : mg "all" = none
section
variable {X : Cx} {e e2 : Expr} {te te2 : TE} {p pos : Pos}
theorem c_len (B : Blt X.mg) (he : PE X e te) (hg : Gl X "len" := by rfl) (h1 : starEach (e :: []) X.env = (false, eval e X.env) :: starEach [] X.env := by rfl) (h2 : (backTo pos (starEach [] X.env)).any (·.1) = false := by rfl) :
    PE X (.Call (.Name "len" p) [e] [] pos) (tCB (fun xs H Q => ∃ p ys, xs = [.ref p] ∧ (SqL X.K H p ys ∨ SqT X.K H p ys) ∧ Q (.int ys.length) H) (tCons te tNil)) := pe_callB call_len_seq hg B.len PySem.boot_len (pa_cons he pa_nil h1) (by decide) (by decide) h1 h2
theorem c_lenD (B : Blt X.mg) (he : PE X e te) (hg : Gl X "len" := by rfl) (h1 : starEach (e :: []) X.env = (false, eval e X.env) :: starEach [] X.env := by rfl) (h2 : (backTo pos (starEach [] X.env)).any (·.1) = false := by rfl) :
    PE X (.Call (.Name "len" p) [e] [] pos) (tCB (fun xs H Q => ∃ a kvs, xs = [V.ref a] ∧ H a = some (.dK kvs) ∧ Q (.int kvs.length) H) (tCons te tNil)) := pe_callB call_lenD hg B.len PySem.boot_len (pa_cons he pa_nil h1) (by decide) (by decide) h1 h2
theorem c_lenS (B : Blt X.mg) (he : PE X e te) (hg : Gl X "len" := by rfl) (h1 : starEach (e :: []) X.env = (false, eval e X.env) :: starEach [] X.env := by rfl) (h2 : (backTo pos (starEach [] X.env)).any (·.1) = false := by rfl) :
    PE X (.Call (.Name "len" p) [e] [] pos) (tCB (rLenSetO X.w) (tCons te tNil)) := pe_callB call_lenSetO hg B.len PySem.boot_len (pa_cons he pa_nil h1) (by decide) (by decide) h1 h2
theorem c_abs (B : Blt X.mg) (he : PE X e te) (hg : Gl X "abs" := by rfl) (h1 : starEach (e :: []) X.env = (false, eval e X.env) :: starEach [] X.env := by rfl) (h2 : (backTo pos (starEach [] X.env)).any (·.1) = false := by rfl) :
    PE X (.Call (.Name "abs" p) [e] [] pos) (tCB (fun xs H Q => ∃ i, xs = [.int i] ∧ Q (.int (if i < 0 then -i else i)) H) (tCons te tNil)) := pe_callB call_abs hg B.abs (by decide +kernel) (pa_cons he pa_nil h1) (by decide) (by decide) h1 h2
theorem c_int (B : Blt X.mg) (he : PE X e te) (hg : Gl X "int" := by rfl) (h1 : starEach (e :: []) X.env = (false, eval e X.env) :: starEach [] X.env := by rfl) (h2 : (backTo pos (starEach [] X.env)).any (·.1) = false := by rfl) :
    PE X (.Call (.Name "int" p) [e] [] pos) (tCB (fun xs H Q => (∃ i, xs = [.int i] ∧ Q (.int i) H) ∨ ∃ k, xs = [.bl k] ∧ Q (.int (if k then 1 else 0)) H) (tCons te tNil)) := pe_callTy call_int1 hg B.int (by decide +kernel) (pa_cons he pa_nil h1) (by decide) (by decide) h1 h2
theorem c_set (hc : X.calm = true) (B : Blt X.mg) (he : PE X e te) (hg : Gl X "set" := by rfl) (h1 : starEach (e :: []) X.env = (false, eval e X.env) :: starEach [] X.env := by rfl) (h2 : (backTo pos (starEach [] X.env)).any (·.1) = false := by rfl) :
    PE X (.Call (.Name "set" p) [e] [] pos) (tCB (rSetI X.K X.w) (tCons te tNil)) := pe_callTy (cr_setI hc) hg B.set (by decide +kernel) (pa_cons he pa_nil h1) (by decide) (by decide) h1 h2
theorem c_list (B : Blt X.mg) (he : PE X e te) (hg : Gl X "list" := by rfl) (h1 : starEach (e :: []) X.env = (false, eval e X.env) :: starEach [] X.env := by rfl) (h2 : (backTo pos (starEach [] X.env)).any (·.1) = false := by rfl) :
    PE X (.Call (.Name "list" p) [e] [] pos) (tCB (fun xs H Q => ∃ p ys, xs = [.ref p] ∧ (SqL X.K H p ys ∨ SqT X.K H p ys) ∧ ∀ l, H l = none → Q (.ref l) (upd H l (.lst ys))) (tCons te tNil)) := pe_callTy call_list_of hg B.list (by decide +kernel) (pa_cons he pa_nil h1) (by decide) (by decide) h1 h2
theorem c_listD (hc : X.calm = true) (B : Blt X.mg) (he : PE X e te) (hg : Gl X "list" := by rfl) (h1 : starEach (e :: []) X.env = (false, eval e X.env) :: starEach [] X.env := by rfl) (h2 : (backTo pos (starEach [] X.env)).any (·.1) = false := by rfl) :
    PE X (.Call (.Name "list" p) [e] [] pos) (tCB (fun xs H Q => ∃ (a : Addr) (kvs : List (Key × V)), xs = [.ref a] ∧ Rd H a (.dK kvs) ∧ ∀ p, H p = none → Q (.ref p) (upd H p (.lst (kvs.map fun kv => kV kv.1)))) (tCons te tNil)) := pe_callTy (call_listD hc) hg B.list (by decide +kernel) (pa_cons he pa_nil h1) (by decide) (by decide) h1 h2
theorem c_tuple (B : Blt X.mg) (he : PE X e te) (hg : Gl X "tuple" := by rfl) (h1 : starEach (e :: []) X.env = (false, eval e X.env) :: starEach [] X.env := by rfl) (h2 : (backTo pos (starEach [] X.env)).any (·.1) = false := by rfl) :
    PE X (.Call (.Name "tuple" p) [e] [] pos) (tCB (fun xs H Q => ∃ p ys, xs = [.ref p] ∧ ((SqL X.K H p ys ∧ ∀ l, H l = none → Q (.ref l) (upd H l (.tup ys))) ∨ (SqT X.K H p ys ∧ Q (.ref p) H))) (tCons te tNil)) := pe_callTy call_tuple_of hg B.tuple (by decide +kernel) (pa_cons he pa_nil h1) (by decide) (by decide) h1 h2
theorem c_sortedSet (hc : X.calm = true) (B : Blt X.mg) (he : PE X e te) (hg : Gl X "sorted" := by rfl) (h1 : starEach (e :: []) X.env = (false, eval e X.env) :: starEach [] X.env := by rfl) (h2 : (backTo pos (starEach [] X.env)).any (·.1) = false := by rfl) :
    PE X (.Call (.Name "sorted" p) [e] [] pos) (tCB (rSortedSet X.w) (tCons te tNil)) := pe_callB (cr_sortedSet hc) hg B.sorted (by decide +kernel) (pa_cons he pa_nil h1) (by decide) (by decide) h1 h2
theorem c_sortedI (B : Blt X.mg) (he : PE X e te) (hg : Gl X "sorted" := by rfl) (h1 : starEach (e :: []) X.env = (false, eval e X.env) :: starEach [] X.env := by rfl) (h2 : (backTo pos (starEach [] X.env)).any (·.1) = false := by rfl) :
    PE X (.Call (.Name "sorted" p) [e] [] pos) (tCB (rSortedI X.K) (tCons te tNil)) := pe_callB cr_sortedI hg B.sorted (by decide +kernel) (pa_cons he pa_nil h1) (by decide) (by decide) h1 h2
theorem c_sortedD (hc : X.calm = true) (B : Blt X.mg) (he : PE X e te) (hg : Gl X "sorted" := by rfl) (h1 : starEach (e :: []) X.env = (false, eval e X.env) :: starEach [] X.env := by rfl) (h2 : (backTo pos (starEach [] X.env)).any (·.1) = false := by rfl) :
    PE X (.Call (.Name "sorted" p) [e] [] pos) (tCB (fun xs H Q => ∃ (a : Addr) (kvs : List (Key × V)) (ks : List Int), xs = [.ref a] ∧ Rd H a (.dK kvs) ∧ kvs.map (·.1) = ks.map Sum.inl ∧ ks.length < 64 ∧
    ∀ (ys : List Int) (p : Addr), ys.Perm ks → ys.Pairwise (· ≤ ·) → H p = none → Q (.ref p) (upd H p (.lst (ys.map V.int)))) (tCons te tNil)) := pe_callB (call_sortedDI hc) hg B.sorted (by decide +kernel) (pa_cons he pa_nil h1) (by decide) (by decide) h1 h2
theorem c_repr {k : Nat} (hG : X.A.guards = some []) (hr : Room k X.A) (B : Blt X.mg) (he : PE X e te) (hg : Gl X "repr" := by rfl) (h1 : starEach (e :: []) X.env = (false, eval e X.env) :: starEach [] X.env := by rfl) (h2 : (backTo pos (starEach [] X.env)).any (·.1) = false := by rfl) :
    PE X (.Call (.Name "repr" p) [e] [] pos) (tCB (rRepr X.K) (tCons te tNil)) := pe_callB (call_repr hG hr) hg B.repr (by decide +kernel) (pa_cons he pa_nil h1) (by decide) (by decide) h1 h2
theorem c_minK (hc : X.calm = true) (B : Blt X.mg) (he : PE X e te) (hg : Gl X "min" := by rfl) (h1 : starEach (e :: []) X.env = (false, eval e X.env) :: starEach [] X.env := by rfl) (h2 : (backTo pos (starEach [] X.env)).any (·.1) = false := by rfl) :
    PE X (.Call (.Name "min" p) [e] [] pos) (tCB rMinK (tCons te tNil)) := pe_callB (cr_minK hc) hg B.min (by decide +kernel) (pa_cons he pa_nil h1) (by decide) (by decide) h1 h2
theorem c_all (hc : X.calm = true) (B : Blt X.mg) (he : PE X e te) (hg : Gl X "all" := by rfl) (h1 : starEach (e :: []) X.env = (false, eval e X.env) :: starEach [] X.env := by rfl) (h2 : (backTo pos (starEach [] X.env)).any (·.1) = false := by rfl) :
    PE X (.Call (.Name "all" p) [e] [] pos) (tCB (rAll X.K) (tCons te tNil)) := pe_callB (cr_all hc) hg B.all (by decide +kernel) (pa_cons he pa_nil h1) (by decide) (by decide) h1 h2
theorem c_min2 (hc : X.calm = true) (B : Blt X.mg) (he : PE X e te) (he2 : PE X e2 te2) (hg : Gl X "min" := by rfl) (h1 : starEach (e :: [e2]) X.env = (false, eval e X.env) :: starEach [e2] X.env := by rfl) (h2 : (backTo pos (starEach [e2] X.env)).any (·.1) = false := by rfl) (h3 : starEach (e2 :: []) X.env = (false, eval e2 X.env) :: starEach [] X.env := by rfl) :
    PE X (.Call (.Name "min" p) [e, e2] [] pos) (tCB (fun xs H Q => ∃ i j, xs = [.int i, .int j] ∧ Q (.int (if j < i then j else i)) H) (tCons te (tCons te2 tNil))) := pe_callB (call_min2 hc) hg B.min (by decide +kernel) (pa_cons he (pa_cons he2 pa_nil h3) h1) (by decide) (by decide) h1 h2
theorem c_max2 (hc : X.calm = true) (B : Blt X.mg) (he : PE X e te) (he2 : PE X e2 te2) (hg : Gl X "max" := by rfl) (h1 : starEach (e :: [e2]) X.env = (false, eval e X.env) :: starEach [e2] X.env := by rfl) (h2 : (backTo pos (starEach [e2] X.env)).any (·.1) = false := by rfl) (h3 : starEach (e2 :: []) X.env = (false, eval e2 X.env) :: starEach [] X.env := by rfl) :
    PE X (.Call (.Name "max" p) [e, e2] [] pos) (tCB (fun xs H Q => ∃ i j, xs = [.int i, .int j] ∧ Q (.int (if j > i then j else i)) H) (tCons te (tCons te2 tNil))) := pe_callB (call_max2 hc) hg B.max (by decide +kernel) (pa_cons he (pa_cons he2 pa_nil h3) h1) (by decide) (by decide) h1 h2
/-- range(e) for a for -/
theorem i_range {tg : Expr} (B : Blt X.mg) (he : PE X e te) (hg : Gl X "range" := by rfl) (hs : starEach [e] X.env = [(false, eval e X.env)] := by rfl) (h1 : starEach (e :: []) X.env = (false, eval e X.env) :: starEach [] X.env := by rfl) : PI X tg (.Call (.Name "range" p) [e] [] pos) (iRng1 (tCons te tNil)) := pi_range1 hg B.range (pa_cons he pa_nil h1) hs
theorem i_range2 {tg : Expr} (B : Blt X.mg) (he : PE X e te) (he2 : PE X e2 te2) (hg : Gl X "range" := by rfl) (hs : starEach [e, e2] X.env = [(false, eval e X.env), (false, eval e2 X.env)] := by rfl) (hs2 : starEach [e2] X.env = [(false, eval e2 X.env)] := by rfl)
    (h1 : starEach (e :: [e2]) X.env = (false, eval e X.env) :: starEach [e2] X.env := by rfl) (h3 : starEach (e2 :: []) X.env = (false, eval e2 X.env) :: starEach [] X.env := by rfl) : PI X tg (.Call (.Name "range" p) [e, e2] [] pos) (iRng2 (tCons te (tCons te2 tNil))) := pi_range2 hg B.range (pa_cons he (pa_cons he2 pa_nil h3) h1) hs hs2
/-- xs.append(e) as a statement's expression -/
theorem c_append {o : Expr} {to : TE} {apos : Pos} (ho : PE X o to) (he : PE X e te) (hbase : attributeBase o "append" X.env (eval o X.env) = eval o X.env := by rfl)
    (hfew : ((backTo pos (starEach (e :: []) X.env)).all (fun x => !x.1) && (backToKw pos (keywordEach [] X.env)).all (fun x => x.1.isSome)
      && decide ((e :: []).length + ([] : List Keyword).length + (if ([] : List Keyword).isEmpty then 0 else 1) < 30)) = true := by rfl)
    (hline : (apos.endLine == pos.line) = true := by rfl) (hs : starEach (e :: []) X.env = (false, eval e X.env) :: starEach [] X.env := by rfl) (hplain : (backTo pos (starEach [] X.env)).any (·.1) = false := by rfl) :
    PE X (.Call (.Attribute o "append" apos) [e] [] pos) (tBM X.K "list" rAppend to (tCons te tNil)) := pe_bm PySem.F.plainAttrs_list PySem.F.slot_list_append PySem.F.type_list_append mt_append ho (pa_cons he pa_nil hs) hbase hfew hline hs hplain
end
/-! ### inside the block of a comprehension: the written part by its name -/
section
variable {X : Cx} {K : PySem.W.Frag} {e tg : Expr} {te : TE} {p pos : Pos}
theorem op_notInK (h : X.K = K) : OpR X (compareOp .NotIn) (rIn K true) := by subst h; exact op_notIn_seq
theorem op_inK (h : X.K = K) : OpR X (compareOp .In) (rIn K false) := by subst h; exact op_in_seq
theorem op_neDK (h : X.K = K) (hu : X.A.units + 64 < cLine) : OpR X (compareOp .NotEq) (rNeD K) := by subst h; exact op_neD hu
theorem op_eqDK (h : X.K = K) (hu : X.A.units + 64 < cLine) : OpR X (compareOp .Eq) (rEqD K) := by subst h; exact op_eqD hu
theorem ix_listK (h : X.K = K) : IxR X (rIxL K) := by subst h; exact ix_list
theorem ix_tupK (h : X.K = K) : IxR X (rIxT K) := by subst h; exact ix_tup
theorem pi_listK (h : X.K = K) (he : PE X e te) : PI X tg e (iList K te) := by subst h; exact pi_list he
theorem pi_tupK (h : X.K = K) (he : PE X e te) : PI X tg e (iTup K te) := by subst h; exact pi_tup he
end
end L2
/-! d == {} and d != {}. -/
namespace L2
open PySem PySem.Spec PyProof.Rows
section
variable {X : Cx}
def rDict0 (neg : Bool) : R2 := fun x y H Q => ∃ (a b : Addr) (ks : List (Key × V)), x = .ref a ∧ y = .ref b ∧ H a = some (.dK ks) ∧ H b = some (.dK []) ∧ Q (.bl (if neg then !decide (ks = []) else decide (ks = []))) H
theorem same_len {ks : List (Key × V)} {α : Type} {va vb : List α} (ha : ks.length = va.length) (hb : ([] : List (Key × V)).length = vb.length) : (va.length == vb.length && true) = decide (ks = []) := by
  rw [← ha, ← hb, Bool.and_true, Bool.eq_iff_iff]
  simp
theorem hits0 {A : Around} {s : Shared} {ks : List (Key × V)} {va vb : List (Key × Value)} (ha : ks.length = va.length) (hb : ([] : List (Key × V)).length = vb.length) (h : va.length = vb.length) : PySem.W.KeqHits A s vb va true := by
  have : va = [] := List.length_eq_zero_iff.mp (h.trans hb.symm)
  subst this
  exact .nil
theorem op_eqD0 (hu : X.A.units < cLine) : OpR X (compareOp .Eq) (rDict0 false) := by
  intro pins s σ H x y v u Q I rx ry h
  obtain ⟨a, b, ks, rfl, rfl, ea, eb, q⟩ := h
  obtain rfl : v = Value.ref a := rx
  obtain rfl : u = Value.ref b := ry
  obtain ⟨_, ya, va, ra, da⟩ := (show ObjOk X.prog X.w H s.heap a (.dK ks) from I.hok a _ ea)
  obtain ⟨_, yb, vb, rb, db⟩ := (show ObjOk X.prog X.w H s.heap b (.dK []) from I.hok b _ eb)
  exact PySem.W.keq_eq (knd := mixKind X.prog X.w) (r := true) ya yb da db hu (fun e => hits0 ra.length rb.length e) (fin_bl I q (same_len ra.length rb.length).symm)
theorem op_neD0 (hu : X.A.units < cLine) : OpR X (compareOp .NotEq) (rDict0 true) := by
  intro pins s σ H x y v u Q I rx ry h
  obtain ⟨a, b, ks, rfl, rfl, ea, eb, q⟩ := h
  obtain rfl : v = Value.ref a := rx
  obtain rfl : u = Value.ref b := ry
  obtain ⟨_, ya, va, ra, da⟩ := (show ObjOk X.prog X.w H s.heap a (.dK ks) from I.hok a _ ea)
  obtain ⟨_, yb, vb, rb, db⟩ := (show ObjOk X.prog X.w H s.heap b (.dK []) from I.hok b _ eb)
  exact PySem.W.keq_ne (knd := mixKind X.prog X.w) (r := true) ya yb da db hu (fun e => hits0 ra.length rb.length e) (fin_bl I q (by rw [same_len ra.length rb.length]; rfl))
end
end L2
/-! what repr asks of lists and tuples of ints; a field read inside a comprehension. -/
namespace L2
open PySem PySem.Spec PyProof.Rows
theorem showable_ints : ∀ ns : List Int, (∀ n ∈ ns, n.natAbs < 10 ^ 12) → PyData.showableAll (dInts ns) = true
  | [], _ => by unfold dInts; rw [List.map_nil, PyData.showableAll]
  | n :: ns, h => by
    have ih := showable_ints ns fun m hm => h m (List.mem_cons_of_mem _ hm)
    have hn := h n List.mem_cons_self
    unfold dInts at ih ⊢
    rw [List.map_cons, PyData.showableAll, ih, Bool.and_true, PyData.showable, decide_eq_true_eq]
    by_cases e : n.natAbs = 0
    · rw [e]; decide
    · exact Nat.lt_trans ((Nat.log2_lt e).mpr (Nat.lt_trans hn (by decide : 10 ^ 12 < 2 ^ 40))) (by decide)
theorem noDict_ints : ∀ ns : List Int, PyData.hasDictAll (dInts ns) = false
  | [] => by unfold dInts; rw [List.map_nil, PyData.hasDictAll]
  | n :: ns => by
    have ih := noDict_ints ns
    unfold dInts at ih ⊢
    rw [List.map_cons, PyData.hasDictAll, ih, PyData.hasDict]
    rfl
theorem leaves_ints : ∀ ns : List Int, (∀ n ∈ ns, n.natAbs < 10 ^ 12) → PyData.leavesShortAll 13 (dInts ns) = true
  | [], _ => by unfold dInts; rw [List.map_nil, PyData.leavesShortAll]
  | n :: ns, h => by
    have ih := leaves_ints ns fun m hm => h m (List.mem_cons_of_mem _ hm)
    have hn := h n List.mem_cons_self
    unfold dInts at ih ⊢
    rw [List.map_cons, PyData.leavesShortAll, ih, Bool.and_true, PyData.leavesShort, decide_eq_true_eq]
    exact PyData.shown_int_le hn
theorem bulk_ints : ∀ ns : List Int, PyData.bulkAll (dInts ns) = ns.length
  | [] => by unfold dInts; rw [List.map_nil, PyData.bulkAll]; rfl
  | n :: ns => by
    have ih := bulk_ints ns
    unfold dInts at ih ⊢
    rw [List.map_cons, PyData.bulkAll, ih, PyData.bulk, List.length_cons]
    omega
theorem repr_tupI {ns : List Int} (h : ∀ n ∈ ns, n.natAbs < 10 ^ 12) (hl : ns.length ≤ 4000) : (PyData.tuple (dInts ns)).showable = true ∧ (PyData.tuple (dInts ns)).hasDict = false ∧ (PyData.tuple (dInts ns)).depth ≤ 100 ∧ (PyData.tuple (dInts ns)).shown.length ≤ sizeLine := by
  refine ⟨by rw [PyData.showable]; exact showable_ints ns h, by rw [PyData.hasDict]; exact noDict_ints ns, by rw [PyData.depth]; have := depth_ints ns; omega, ?_⟩
  have h1 := PyData.shown_le_bulk 13 (by decide) (.tuple (dInts ns)) (by rw [PyData.leavesShort]; exact leaves_ints ns h)
  rw [PyData.bulk, bulk_ints] at h1
  exact Nat.le_trans h1 (Nat.le_trans (m := 60013) (by omega) (by decide))
theorem repr_lstI {ns : List Int} (h : ∀ n ∈ ns, n.natAbs < 10 ^ 12) (hl : ns.length ≤ 4000) : (PyData.list (dInts ns)).showable = true ∧ (PyData.list (dInts ns)).hasDict = false ∧ (PyData.list (dInts ns)).depth ≤ 100 ∧ (PyData.list (dInts ns)).shown.length ≤ sizeLine := by
  refine ⟨by rw [PyData.showable]; exact showable_ints ns h, by rw [PyData.hasDict]; exact noDict_ints ns, by rw [PyData.depth]; have := depth_ints ns; omega, ?_⟩
  have h1 := PyData.shown_le_bulk 13 (by decide) (.list (dInts ns)) (by rw [PyData.leavesShort]; exact leaves_ints ns h)
  rw [PyData.bulk, bulk_ints] at h1
  exact Nat.le_trans h1 (Nat.le_trans (m := 60013) (by omega) (by decide))
theorem pe_fldK {X : Cx} {K : PySem.W.Frag} {e : Expr} {f : Str} {pos : Pos} {ta : TE} (h : X.K = K) (he : PE X e ta) (hb : attributeBase e f X.env (eval e X.env) = eval e X.env) : PE X (.Attribute e f pos) (tFld K ta f) := by subst h; exact pe_fld he hb
end L2
namespace K52
open PySem L2
def topS (i : Nat) : Stmt := PySem.Challenge.pw_keptwhole_k52_whole_marks_amid_other_dee.main.body.getD i (.Pass ⟨0, 0, 0, 0⟩)
/-! ### what stays: all that is tracked but for one place; a box -/
def Fr (b : Addr) (H H' : Hp) : Prop := ∀ c o, H c = some o → c ≠ b → H' c = some o
theorem Fr.refl (b : Addr) (H : Hp) : Fr b H H := fun _ _ h _ => h
theorem Fr.trans {b : Addr} {H H1 H2 : Hp} (x : Fr b H H1) (y : Fr b H1 H2) : Fr b H H2 := fun c o h n => y c o (x c o h n) n
theorem Fr.of {b : Addr} {H H' : Hp} (x : Same H H') : Fr b H H' := fun c o h _ => x c o h
theorem Fr.up {b : Addr} {H : Hp} {o : HO} : Fr b H (upd H b o) := fun c o h n => by rw [upd_ne n]; exact h
theorem Fr.rd {b c : Addr} {H H' : Hp} {u : HO} (x : Fr b H H') (n : c ≠ b) (r : Rd H c u) : Rd H' c u := r.imp (fun h => x c _ h n) fun ⟨o, h⟩ => ⟨o, x c _ h n⟩
theorem Fr.seqL {K : PySem.W.Frag} {b c : Addr} {H H' : Hp} {xs : List V} (x : Fr b H H') (n : c ≠ b) (r : SqL K H c xs) : SqL K H' c xs := r.imp (fun h => x.rd n h) id
theorem Fr.seqT {K : PySem.W.Frag} {b c : Addr} {H H' : Hp} {xs : List V} (x : Fr b H H') (n : c ≠ b) (r : SqT K H c xs) : SqT K H' c xs := r.imp (fun h => x.rd n h) id
def BoxAt (H : Hp) (b : Addr) : Prop := ∃ g r : Int, H b = some (.lst [.int g, .int r])
abbrev sBox : Stmt := topS 10
abbrev sTake : Stmt := topS 11
abbrev sPick : Stmt := topS 12
def spBox (K : PySem.W.Frag) : Sp := fun vs H Q _ => ∃ (a : Addr) (ns : List Int) (k : Nat), vs = [.ref a, .int k] ∧ SqL K H a (ns.map V.int) ∧ ns.length ≤ 63 ∧
  ∀ p H', Same H H' → H p = none → BoxAt H' p → Q (.ref p) H'
def spTake : Sp := fun vs H Q _ => ∃ (b : Addr) (many : Int), vs = [.ref b, .int many] ∧ BoxAt H b ∧ 0 < many ∧ many < 1073741824 ∧
  ∀ (d : Int) H', 0 ≤ d → d < many → Fr b H H' → BoxAt H' b → Q (.int d) H'
def spPick (K : PySem.W.Frag) : Sp := fun vs H Q _ => ∃ (b l : Addr) (xs : List V), vs = [.ref b, .ref l] ∧ BoxAt H b ∧ SqL K H l xs ∧ l ≠ b ∧ xs ≠ [] ∧ xs.length < 1073741824 ∧
  ∀ (v : V) H', v ∈ xs → Fr b H H' → BoxAt H' b → Q v H'
theorem atI_in {xs : List V} {i : Int} (h0 : 0 ≤ i) (h1 : i < xs.length) : ∃ v, atI xs i = some v ∧ v ∈ xs := by
  obtain ⟨n, rfl⟩ := Int.eq_ofNat_of_zero_le h0
  have hn : n < xs.length := by omega
  exact ⟨xs[n], atI_nat (List.getElem?_eq_getElem hn), List.getElem_mem hn⟩
theorem m31 : (0 : Int) < 2147483563 := by decide
theorem sz2 : 2 ≤ sizeLine := by decide
section
variable {P : Program} {w : World} {K : PySem.W.Frag} {mg : Str → Option Value} {base : Heap}
theorem scBox : FnScope ["script", "k", "cell", "great"] ["script", "k"] (defScope sBox) := ⟨rfl, rfl, rfl, by decide +kernel, rfl, by decide +kernel, by decide +kernel⟩
theorem ok_box {f : Addr} {fd : FuncData} (F : Fun K "_law_box" "_law_box" sBox f fd) (T : Blt mg) : FnOk P w K mg base CX0 1 f fd ["script", "k"] (spBox K) := by
  refine F.ok scBox (fun vs H Q E h => ?_) (fun cdv A outer s H vs Q E hr h => ?_)
  · obtain ⟨a, ns, k, rfl, _⟩ := h
    rfl
  · obtain ⟨a, ns, k, rfl, hS, hl, q⟩ := h
    have hlen : (ns.map V.int).length = ns.length := List.length_map ..
    refine ⟨_, pss_cons (ps_set (i := 2) scBox.nd rfl (.inl rfl) (pe_op op_add (pe_op op_mul pe_int (pv 1)) pe_int))
      (pss_cons (ps_if (pt_cmpR op_lt (pv 1) (pe_callB call_len_seq (by rfl) T.len PySem.boot_len (pa_cons (pv 0) pa_nil)) (nomark _))
        (pss_one (ps_set (i := 2) scBox.nd rfl (.inl rfl) (pe_callB call_abs (by rfl) T.abs (by decide +kernel) (pa_cons (pe_callTy call_int1 (by rfl) T.int (by decide +kernel) (pa_cons (pe_ix ix_list (pv 0) (pv 1) (fun _ _ => rfl)) pa_nil)) pa_nil))))
        (pss_one (ps_if (pt_cmpR op_gt (pe_callB call_len_seq (by rfl) T.len PySem.boot_len (pa_cons (pv 0) pa_nil)) pe_int (nomark _))
          (pss_one (ps_set (i := 2) scBox.nd rfl (.inl rfl) (pe_op op_add (pv 2) (pe_op op_mul (pe_op op_mod (pe_callTy call_int1 (by rfl) T.int (by decide +kernel) (pa_cons (pe_callB call_abs (by rfl) T.abs (by decide +kernel) (pa_cons (pe_callTy call_int1 (by rfl) T.int (by decide +kernel) (pa_cons (pe_ix ix_list (pv 0) (pe_op op_mod (pe_callTy call_int1 (by rfl) T.int (by decide +kernel) (pa_cons (pv 1) pa_nil)) (pe_callB call_len_seq (by rfl) T.len PySem.boot_len (pa_cons (pv 0) pa_nil))) (fun _ _ => rfl)) pa_nil)) pa_nil)) pa_nil)) pe_int) pe_int))))
          pss_nil)))
      (pss_cons (ps_set (i := 3) scBox.nd rfl (.inl rfl) (pe_ifExp (pt_cmpR op_ge (pv 2) (pe_op op_pow pe_int pe_int) (nomark _)) (pv 2) pe_int))
      (pss_one (ps_ret (pe_lst (pa_cons (pv 3) (pa_cons (pe_op op_add (pe_op op_mod (pe_callTy call_int1 (by rfl) T.int (by decide +kernel) (pa_cons (pe_op op_add (pe_op op_mul (pe_op op_mod (pe_callTy call_int1 (by rfl) T.int (by decide +kernel) (pa_cons (pv 2) pa_nil)) pe_int) pe_int) (pe_op op_mul pe_int (pv 1))) pa_nil)) pe_int) pe_int) pa_nil))))))), ?_⟩
    refine ⟨_, rfl, _, _, rfl, rfl, .inl ⟨by decide, by decide⟩, _, _, rfl, rfl, ?_⟩
    refine ⟨_, rfl, _, rfl, a, _, rfl, .inl hS, _, _, rfl, rfl, _, rfl, ite2 (fun h1 => ?_) (fun h1 => ?_)⟩
    · have h1' : k < ns.length := by have := of_decide_eq_true h1; omega
      refine ⟨_, rfl, _, rfl, a, _, _, _, rfl, rfl, hS, atI_nat (xs := ns.map V.int) (j := k) (by rw [List.getElem?_map, List.getElem?_eq_getElem h1']; rfl), .inl ⟨_, rfl, _, rfl, ?_⟩⟩
      refine ⟨_, rfl, _, _, rfl, rfl, ⟨by decide, by decide, by decide⟩, _, _, rfl, rfl, _, rfl, ite2 (fun h3 => ?_) (fun h3 => ?_)⟩
      · refine ⟨_, rfl, _, rfl, _, rfl, .inl ⟨_, rfl, _, _, rfl, rfl, m31, _, _, rfl, rfl, .inr ⟨by decide, by decide⟩, _, rfl, _, _, rfl, rfl, .inl ⟨by decide, by decide⟩, _, _, rfl, rfl, .inl ⟨_, rfl, _, _, rfl, rfl, m31, _, _, rfl, rfl, sz2, fun p np => ?_⟩⟩⟩
        exact q p _ (fun b o e => by rw [upd_ne (ne_of_none e np)]; exact e) np ⟨_, _, upd_same⟩
      · refine ⟨_, rfl, _, rfl, .inl ⟨_, rfl, _, _, rfl, rfl, m31, _, _, rfl, rfl, .inr ⟨by decide, by decide⟩, _, rfl, _, _, rfl, rfl, .inl ⟨by decide, by decide⟩, _, _, rfl, rfl, .inl ⟨_, rfl, _, _, rfl, rfl, m31, _, _, rfl, rfl, sz2, fun p np => ?_⟩⟩⟩
        exact q p _ (fun b o e => by rw [upd_ne (ne_of_none e np)]; exact e) np ⟨_, _, upd_same⟩
    · refine ⟨_, rfl, a, _, rfl, .inl hS, _, _, rfl, rfl, _, rfl, ite2 (fun h2 => ?_) (fun h2 => ?_)⟩
      · have h2' : 0 < ns.length := by have := of_decide_eq_true h2; omega
        have hm : ((k : Int) % ((ns.map V.int).length : Int)) < ((ns.map V.int).length : Int) := Int.emod_lt_of_pos _ (by omega)
        obtain ⟨v, hv, hin⟩ := atI_in (Int.emod_nonneg (k : Int) (by omega : ((ns.map V.int).length : Int) ≠ 0)) hm
        obtain ⟨z, _, rfl⟩ := List.mem_map.mp hin
        refine ⟨_, rfl, _, rfl, _, rfl, .inl ⟨_, rfl, _, rfl, a, _, rfl, .inl hS, _, _, rfl, rfl, by omega, a, _, _, _, rfl, rfl, hS, hv, .inl ⟨_, rfl, _, rfl, .inl ⟨_, rfl, _, _, rfl, rfl, m31, _, _, rfl, rfl, .inr ⟨by decide, by decide⟩, _, _, rfl, rfl, ?_⟩⟩⟩⟩
        refine ⟨_, rfl, _, _, rfl, rfl, ⟨by decide, by decide, by decide⟩, _, _, rfl, rfl, _, rfl, ite2 (fun h3 => ?_) (fun h3 => ?_)⟩
        · refine ⟨_, rfl, _, rfl, _, rfl, .inl ⟨_, rfl, _, _, rfl, rfl, m31, _, _, rfl, rfl, .inr ⟨by decide, by decide⟩, _, rfl, _, _, rfl, rfl, .inl ⟨by decide, by decide⟩, _, _, rfl, rfl, .inl ⟨_, rfl, _, _, rfl, rfl, m31, _, _, rfl, rfl, sz2, fun p np => ?_⟩⟩⟩
          exact q p _ (fun b o e => by rw [upd_ne (ne_of_none e np)]; exact e) np ⟨_, _, upd_same⟩
        · refine ⟨_, rfl, _, rfl, .inl ⟨_, rfl, _, _, rfl, rfl, m31, _, _, rfl, rfl, .inr ⟨by decide, by decide⟩, _, rfl, _, _, rfl, rfl, .inl ⟨by decide, by decide⟩, _, _, rfl, rfl, .inl ⟨_, rfl, _, _, rfl, rfl, m31, _, _, rfl, rfl, sz2, fun p np => ?_⟩⟩⟩
          exact q p _ (fun b o e => by rw [upd_ne (ne_of_none e np)]; exact e) np ⟨_, _, upd_same⟩
      · refine ⟨_, rfl, _, _, rfl, rfl, ⟨by decide, by decide, by decide⟩, _, _, rfl, rfl, _, rfl, ite2 (fun h3 => ?_) (fun h3 => ?_)⟩
        · refine ⟨_, rfl, _, rfl, _, rfl, .inl ⟨_, rfl, _, _, rfl, rfl, m31, _, _, rfl, rfl, .inr ⟨by decide, by decide⟩, _, rfl, _, _, rfl, rfl, .inl ⟨by decide, by decide⟩, _, _, rfl, rfl, .inl ⟨_, rfl, _, _, rfl, rfl, m31, _, _, rfl, rfl, sz2, fun p np => ?_⟩⟩⟩
          exact q p _ (fun b o e => by rw [upd_ne (ne_of_none e np)]; exact e) np ⟨_, _, upd_same⟩
        · refine ⟨_, rfl, _, rfl, .inl ⟨_, rfl, _, _, rfl, rfl, m31, _, _, rfl, rfl, .inr ⟨by decide, by decide⟩, _, rfl, _, _, rfl, rfl, .inl ⟨by decide, by decide⟩, _, _, rfl, rfl, .inl ⟨_, rfl, _, _, rfl, rfl, m31, _, _, rfl, rfl, sz2, fun p np => ?_⟩⟩⟩
          exact q p _ (fun b o e => by rw [upd_ne (ne_of_none e np)]; exact e) np ⟨_, _, upd_same⟩
theorem scTake : FnScope ["box", "many", "digit", "raw"] ["box", "many"] (defScope sTake) := ⟨rfl, rfl, rfl, by decide +kernel, rfl, by decide +kernel, by decide +kernel⟩
theorem ok_take {f : Addr} {fd : FuncData} (F : Fun K "_law_take" "_law_take" sTake f fd) (T : Blt mg) : FnOk P w K mg base CX0 1 f fd ["box", "many"] spTake := by
  refine F.ok scTake (fun vs H Q E h => ?_) (fun cdv A outer s H vs Q E hr h => ?_)
  · obtain ⟨b, m, rfl, _⟩ := h
    rfl
  · obtain ⟨b, m, rfl, ⟨g, r, hb⟩, h0, h1, q⟩ := h
    have m31b : (0 : Int) < 2147483647 := by decide
    have m31c : (0 : Int) < 2147483399 := by decide
    refine ⟨_, pss_cons (ps_if (pt_cmpR op_gt (pe_ix ix_list (pv 0) pe_int (fun _ _ => rfl)) pe_int (nomark _))
        (pss_cons (ps_set (i := 2) scTake.nd rfl (.inl rfl) (pe_op op_mod (pe_callTy call_int1 (by rfl) T.int (by decide +kernel) (pa_cons (pe_ix ix_list (pv 0) pe_int (fun _ _ => rfl)) pa_nil)) (pv 1)))
        (pss_cons (ps_asg (pe_op op_fdiv (pe_ix ix_list (pv 0) pe_int (fun _ _ => rfl)) (pv 1)) (pg_sub (pv 0) pe_int set_list))
        (pss_one (ps_ret (pv 2))))) pss_nil)
      (pss_cons (ps_set (i := 3) scTake.nd rfl (.inl rfl) (pe_op op_mod (pe_callTy call_int1 (by rfl) T.int (by decide +kernel) (pa_cons (pe_op op_add (pe_op op_mul (pe_ix ix_list (pv 0) pe_int (fun _ _ => rfl)) pe_int) pe_int) pa_nil)) pe_int))
      (pss_cons (ps_asg (pe_op op_add (pe_op op_mod (pe_callTy call_int1 (by rfl) T.int (by decide +kernel) (pa_cons (pe_op op_add (pe_op op_mul (pv 3) pe_int) pe_int) pa_nil)) pe_int) pe_int) (pg_sub (pv 0) pe_int set_list))
      (pss_one (ps_ret (pe_op op_mod (pe_callTy call_int1 (by rfl) T.int (by decide +kernel) (pa_cons (pe_op op_fdiv (pe_op op_add (pe_op op_mul (pv 3) pe_int) (pe_ix ix_list (pv 0) pe_int (fun _ _ => rfl))) pe_int) pa_nil)) (pv 1)))))), ?_⟩
    have S : SqL K H b [.int g, .int r] := SqL.of hb
    refine ⟨_, rfl, b, _, _, _, rfl, rfl, S, rfl, _, _, rfl, rfl, _, rfl, ite2 (fun h2 => ?_) (fun h2 => ?_)⟩
    · refine ⟨_, rfl, b, _, _, _, rfl, rfl, S, rfl, .inl ⟨_, rfl, _, rfl, _, _, rfl, rfl, h0, ?_⟩⟩
      refine ⟨_, rfl, b, _, _, _, rfl, rfl, S, rfl, _, rfl, _, _, rfl, rfl, ⟨h0, h1⟩, _, rfl, b, _, _, 0, rfl, rfl, hb, rfl, ?_⟩
      refine ⟨_, rfl, ?_⟩
      exact q _ _ (Int.emod_nonneg _ (by omega)) (Int.emod_lt_of_pos _ h0) Fr.up ⟨_, _, upd_same⟩
    · refine ⟨_, rfl, b, _, _, _, rfl, rfl, S, rfl, _, _, rfl, rfl, .inr ⟨by decide, by decide⟩, _, _, rfl, rfl, .inl ⟨_, rfl, _, _, rfl, rfl, m31b, ?_⟩⟩
      refine ⟨_, rfl, _, _, rfl, rfl, .inr ⟨by decide, by decide⟩, _, _, rfl, rfl, .inl ⟨_, rfl, _, _, rfl, rfl, m31c, _, _, rfl, rfl, _, rfl, b, _, _, 1, rfl, rfl, hb, rfl, ?_⟩⟩
      refine ⟨_, rfl, _, _, rfl, rfl, .inr ⟨by decide, by decide⟩, _, rfl, b, _, _, _, rfl, rfl, SqL.of upd_same, rfl, _, _, rfl, rfl, _, _, rfl, rfl, ⟨by decide, by decide⟩, .inl ⟨_, rfl, _, rfl, _, _, rfl, rfl, h0, ?_⟩⟩
      exact q _ _ (Int.emod_nonneg _ (by omega)) (Int.emod_lt_of_pos _ h0) Fr.up ⟨_, _, upd_same⟩
theorem scPick : FnScope ["box", "some"] ["box", "some"] (defScope sPick) := ⟨rfl, rfl, rfl, by decide +kernel, rfl, by decide +kernel, by decide +kernel⟩
theorem ok_pick {f fT : Addr} {fd fdT : FuncData} (F : Fun K "_law_pick" "_law_pick" sPick f fd) (T : Blt mg) (mT : mg "_law_take" = some (.ref fT)) (kT : PySem.W.keepIn K (.ref fT) = true) (FT : Fun K "_law_take" "_law_take" sTake fT fdT) (bT : Binds K fdT ["box", "many"] []) :
    FnOk P w K mg base CX0 2 f fd ["box", "some"] (spPick K) := by
  refine F.ok scPick (fun vs H Q E h => ?_) (fun cdv A outer s H vs Q E hr h => ?_)
  · obtain ⟨b, l, xs, rfl, _⟩ := h
    rfl
  · obtain ⟨b, l, xs, rfl, hb, hS, hn, h0, h1, q⟩ := h
    refine ⟨_, pss_one (ps_ret (pe_ix ix_list (pv 1) (pe_call (ok_take FT T) hr (by rfl) mT kT bT .nil pass0 (pa_cons (pv 0) (pa_cons (pe_callB call_len_seq (by rfl) T.len PySem.boot_len (pa_cons (pv 1) pa_nil)) pa_nil))) (fun _ _ => rfl))), ?_⟩
    have hp : 0 < xs.length := by cases xs with | nil => exact absurd rfl h0 | cons _ _ => exact Nat.succ_pos _
    refine ⟨_, rfl, _, rfl, _, rfl, l, _, rfl, .inl hS, b, _, rfl, hb, by omega, by omega, fun d H' d0 d1 fr hb' => ?_⟩
    obtain ⟨v, hv, hin⟩ := atI_in d0 d1
    exact ⟨l, _, _, _, rfl, rfl, fr.seqL hn hS, hv, q v H' hin fr hb'⟩
end
end K52
namespace K52
open PySem L2
/-! ### Marks -/
abbrev sMI : Stmt := inClass (topS 7) 0
abbrev sMS : Stmt := inClass (topS 7) 1
abbrev sMF : Stmt := inClass (topS 7) 2
abbrev sML : Stmt := inClass (topS 7) 3
theorem mw : ¬ (("marked" : Str) = "waiting") := by decide +kernel
theorem wm : ¬ (("waiting" : Str) = "marked") := by decide +kernel
abbrev flds (dm dw : Addr) : List (Str × V) := [("marked", .ref dm), ("waiting", .ref dw)]
theorem flds_m (dm dw : Addr) : (flds dm dw).lookup ("marked" : Str) = some (.ref dm) := by
  have : (("marked" : Str) == "marked") = true := by decide +kernel
  simp only [List.lookup, this]
theorem flds_w (dm dw : Addr) : (flds dm dw).lookup ("waiting" : Str) = some (.ref dw) := by
  have h1 : (("waiting" : Str) == "marked") = false := by decide +kernel
  have h2 : (("waiting" : Str) == "waiting") = true := by decide +kernel
  simp only [List.lookup, h1, h2]
theorem flds_no (dm dw : Addr) {m : Str} (h1 : (m == "marked") = false) (h2 : (m == "waiting") = false) : (flds dm dw).lookup m = none := by
  simp only [List.lookup, h1, h2]
def Fr2 (a b : Addr) (H H' : Hp) : Prop := ∀ c o, H c = some o → c ≠ a → c ≠ b → H' c = some o
theorem Fr2.refl (a b : Addr) (H : Hp) : Fr2 a b H H := fun _ _ h _ _ => h
theorem Fr2.trans {a b : Addr} {H H1 H2 : Hp} (x : Fr2 a b H H1) (y : Fr2 a b H1 H2) : Fr2 a b H H2 := fun c o h n m => y c o (x c o h n m) n m
theorem Fr2.of {a b : Addr} {H H' : Hp} (x : Same H H') : Fr2 a b H H' := fun c o h _ _ => x c o h
theorem Fr2.up1 {a b : Addr} {H : Hp} {o : HO} : Fr2 a b H (upd H a o) := fun c u h n _ => by rw [upd_ne n]; exact h
theorem Fr2.up2 {a b : Addr} {H : Hp} {o : HO} : Fr2 a b H (upd H b o) := fun c u h _ n => by rw [upd_ne n]; exact h
theorem Fr2.rd {a b c : Addr} {H H' : Hp} {u : HO} (x : Fr2 a b H H') (n : c ≠ a) (m : c ≠ b) (r : Rd H c u) : Rd H' c u := r.imp (fun h => x c _ h n m) fun ⟨o, h⟩ => ⟨o, x c _ h n m⟩
/-- Marks at p: its dicts at dm, dw, keys ms and ws -/
structure MarksAt (C : Addr) (H : Hp) (p dm dw : Addr) (ms ws : List Int) : Prop where
  ob : ∃ dx, H p = some (.ins C dx (flds dm dw))
  m : H dm = some (.dK (IK ms))
  w : H dw = some (.dK (IK ws))
  ne : dm ≠ dw
theorem MarksAt.keep {C : Addr} {H H' : Hp} {p dm dw : Addr} {ms ws : List Int} (M : MarksAt C H p dm dw ms ws) (s : Same H H') : MarksAt C H' p dm dw ms ws :=
  ⟨M.ob.imp fun _ h => s _ _ h, s _ _ M.m, s _ _ M.w, M.ne⟩
theorem MarksAt.pm {C : Addr} {H : Hp} {p dm dw : Addr} {ms ws : List Int} (M : MarksAt C H p dm dw ms ws) : p ≠ dm := by
  obtain ⟨dx, h⟩ := M.ob
  exact ne_of h M.m (by intro z; cases z)
theorem MarksAt.pw {C : Addr} {H : Hp} {p dm dw : Addr} {ms ws : List Int} (M : MarksAt C H p dm dw ms ws) : p ≠ dw := by
  obtain ⟨dx, h⟩ := M.ob
  exact ne_of h M.w (by intro z; cases z)
structure MTxt (K : PySem.W.Frag) (mg : Str → Option Value) (C : Addr) : Prop where
  cl : Cls K C
  nM : NoAttr K C "marked"
  nW : NoAttr K C "waiting"
  mgC : mg "Marks" = some (.ref C)
  min : mg "min" = none
  tup : mg "tuple" = none
def spInit (C : Addr) : Sp := fun vs H Q _ => ∃ (p dx : Addr), vs = [.ref p] ∧ H p = some (.ins C dx []) ∧ ∀ (dm dw : Addr) (H' : Hp), H dm = none → H dw = none → MarksAt C H' p dm dw [] [] → (∀ b o, H b = some o → b ≠ p → H' b = some o) → Q .non H'
def spShade (C : Addr) : Sp := fun vs H Q _ => ∃ (p dm dw : Addr) (ms ws : List Int) (n : Int), vs = [.ref p, .int n] ∧ MarksAt C H p dm dw ms ws ∧ ms.length ≤ 900 ∧ ws.length ≤ 900 ∧ (n ∈ ws → n ∈ ms) ∧
  (n ∈ ms → Q (.bl false) H) ∧ (n ∉ ms → ∀ H', Fr2 dm dw H H' → MarksAt C H' p dm dw (ms ++ [n]) (ws ++ [n]) → Q (.bl true) H')
def spFirst (C : Addr) : Sp := fun vs H Q _ => ∃ (p dm dw : Addr) (ms ws : List Int), vs = [.ref p] ∧ MarksAt C H p dm dw ms ws ∧ (ws = [] → Q .non H) ∧ (∀ m, m ∈ ws → (∀ j ∈ ws, m ≤ j) → Q (.int m) H)
def newOf (ms ls : List Int) : List Int := ls.filter fun l => decide (l ∉ ms)
def spLook (C CR : Addr) (K : PySem.W.Frag) : Sp := fun vs H Q E => ∃ (p dm dw t : Addr) (ms ws ls : List Int) (n : Int), vs = [.ref p, .int n, .ref t] ∧ MarksAt C H p dm dw ms ws ∧ ms.length ≤ 450 ∧ ws.length ≤ 450 ∧ ls.length ≤ 450 ∧ SqT K H t (ls.map V.int) ∧ ls.Nodup ∧ (∀ x ∈ ws, x ∈ ms) ∧
  (n ∈ ws → ∀ H' q, Fr2 dm dw H H' → MarksAt C H' p dm dw (ms ++ newOf ms ls) (ws.filter (fun m => decide (m ≠ n)) ++ newOf ms ls) → H q = none → H' q = some (.tup ((newOf ms ls).map V.int)) → Q (.ref q) H') ∧
  (n ∉ ws → ∀ d, H d = none → E (.ref CR) (some d) (upd H d (.xd [(fAt, .int n)])))
section
variable {P : Program} {w : World} {K : PySem.W.Frag} {mg : Str → Option Value} {base : Heap}
theorem scMI : FnScope ["self"] ["self"] (defScope sMI) := ⟨rfl, rfl, rfl, by decide +kernel, rfl, by decide +kernel, by decide +kernel⟩
theorem ok_minit {f C : Addr} {fd : FuncData} (F : Fun K "__init__" "Marks.__init__" sMI f fd) (T : MTxt K mg C) : FnOk P w K mg base CX0 1 f fd ["self"] (spInit C) := by
  refine F.ok scMI (fun vs H Q E h => ?_) (fun cdv A outer s H vs Q E hr h => ?_)
  · obtain ⟨p, dx, rfl, _⟩ := h
    rfl
  · obtain ⟨p, dx, rfl, hp, k⟩ := h
    refine ⟨_, pss_cons (ps_fld (pv 0) pe_dnewK rfl) (pss_one (ps_fld (pv 0) pe_dnewK rfl)), ?_⟩
    intro d hd
    have npd : p ≠ d := ne_of_none hp hd
    refine ⟨_, rfl, p, C, dx, [], rfl, (by rw [upd_ne npd]; exact hp), T.cl, T.nM, (by show 0 < 1000; decide), ?_⟩
    intro e he
    have nep : e ≠ p := fun z => by subst z; rw [upd_same] at he; cases he
    have he1 : (upd H d (.dK [])) e = none := by rwa [upd_ne nep] at he
    have ned : e ≠ d := fun z => by subst z; rw [upd_same] at he1; cases he1
    have he2 : H e = none := by rwa [upd_ne ned] at he1
    refine ⟨_, rfl, p, C, dx, [("marked", V.ref d)], rfl, (by rw [upd_ne nep.symm, upd_same]; rfl), T.cl, T.nW, (by show 1 < 1000; decide), ?_⟩
    have e1 : putF "waiting" (V.ref e) [("marked", V.ref d)] = flds d e := by
      show (if ("marked" : Str) = "waiting" then _ else (("marked" : Str), V.ref d) :: putF "waiting" (V.ref e) []) = _
      rw [if_neg mw]
      rfl
    refine k d e _ hd he2 ⟨⟨dx, by rw [upd_same, e1]⟩, by rw [upd_ne npd.symm, upd_ne ned.symm, upd_ne npd.symm, upd_same]; rfl, by rw [upd_ne nep, upd_same]; rfl, ned.symm⟩ fun b o z hb => ?_
    rw [upd_ne hb, upd_ne (ne_of_none z he2), upd_ne hb, upd_ne (ne_of_none z hd)]
    exact z
theorem scMS : FnScope ["self", "name"] ["self", "name"] (defScope sMS) := ⟨rfl, rfl, rfl, by decide +kernel, rfl, by decide +kernel, by decide +kernel⟩
theorem ok_shade {f C : Addr} {fd : FuncData} (F : Fun K "shade" "Marks.shade" sMS f fd) (T : MTxt K mg C) : FnOk P w K mg base CX0 1 f fd ["self", "name"] (spShade C) := by
  refine F.ok scMS (fun vs H Q E h => ?_) (fun cdv A outer s H vs Q E hr h => ?_)
  · obtain ⟨p, dm, dw, ms, ws, n, rfl, _⟩ := h
    rfl
  · obtain ⟨p, dm, dw, ms, ws, n, rfl, M, hl, hl2, hsub, k1, k2⟩ := h
    have hu := hu_of hr
    obtain ⟨⟨dx, h1⟩, hm, hw, ne⟩ := id M
    have npm := M.pm
    have npw := M.pw
    refine ⟨_, pss_cons (ps_if (pt_cmp (pc_din hu (pv 1) (pe_fld (pv 0) rfl))) (pss_one (ps_ret pe_bl)) pss_nil)
      (pss_cons (ps_dput hu (pe_fld (pv 0) rfl) (pv 1) pe_bl rfl)
      (pss_cons (ps_dput hu (pe_fld (pv 0) rfl) (pv 1) pe_bl rfl)
      (pss_one (ps_ret pe_bl)))), ?_⟩
    refine ⟨_, rfl, _, rfl, p, C, dx, _, _, rfl, h1, T.cl, T.nM, flds_m _ _, dm, _, rfl, DGet.k (k := Sum.inl n) hm, _, rfl, ?_⟩
    rw [valV_IK]
    by_cases hn : n ∈ ms
    · rw [if_pos hn]
      exact iteT (k1 hn)
    · rw [if_neg hn]
      refine iteF ?_
      refine ⟨_, rfl, p, C, dx, _, _, rfl, h1, T.cl, T.nM, flds_m _ _, _, rfl, dm, _, rfl, DPut.k (k := Sum.inl n) hm (small1000 (by rw [IK_len]; omega)), ?_⟩
      refine ⟨_, rfl, p, C, dx, _, _, rfl, (by rw [upd_ne npm]; exact h1), T.cl, T.nW, flds_w _ _, _, rfl, dw, _, rfl, DPut.k (k := Sum.inl n) (by rw [upd_ne ne.symm]; exact hw) (small1000 (by rw [IK_len]; omega)), ?_⟩
      have hn' : n ∉ ws := fun h => hn (hsub h)
      refine k2 hn _ (Fr2.up1.trans Fr2.up2) ⟨⟨dx, by rw [upd_ne npw, upd_ne npm]; exact h1⟩, ?_, ?_, ne⟩
      · rw [upd_ne ne, upd_same, putK_IK hn]
      · rw [upd_same, putK_IK hn']
theorem scMF : FnScope ["self"] ["self"] (defScope sMF) := ⟨rfl, rfl, rfl, by decide +kernel, rfl, by decide +kernel, by decide +kernel⟩
theorem ok_first {f C : Addr} {fd : FuncData} (F : Fun K "first" "Marks.first" sMF f fd) (T : MTxt K mg C) (B : Blt mg) : FnOk P w K mg base CX0 1 f fd ["self"] (spFirst C) := by
  refine F.ok scMF (fun vs H Q E h => ?_) (fun cdv A outer s H vs Q E hr h => ?_)
  · obtain ⟨p, dm, dw, ms, ws, rfl, _⟩ := h
    rfl
  · obtain ⟨p, dm, dw, ms, ws, rfl, M, k1, k2⟩ := h
    obtain ⟨⟨dx, h1⟩, hm, hw, ne⟩ := id M
    refine ⟨_, pss_one (ps_ret (pe_ifExp (pt_cmpR op_gt (pe_callB call_lenD (by rfl) B.len PySem.boot_len (pa_cons (pe_fld (pv 0) rfl) pa_nil)) pe_int (nomark _)) (pe_callB (cr_minK rfl) (by rfl) T.min (by decide +kernel) (pa_cons (pe_fld (pv 0) rfl) pa_nil)) pe_non)), ?_⟩
    refine ⟨_, rfl, p, C, dx, _, _, rfl, h1, T.cl, T.nW, flds_w _ _, dw, _, rfl, hw, _, _, rfl, rfl, _, rfl, ite2 (fun h2 => ?_) (fun h2 => ?_)⟩
    · have h2' : 0 < ws.length := by have := of_decide_eq_true h2; rw [IK_len] at this; omega
      refine ⟨_, rfl, p, C, dx, _, _, rfl, h1, T.cl, T.nW, flds_w _ _, dw, _, ws, rfl, hw, ?_, (fun z => by subst z; cases h2'), fun m hm hle => k2 m hm hle⟩
      unfold IK ikv
      rw [List.map_map, List.map_map]
      rfl
    · refine k1 (List.length_eq_zero_iff.mp ?_)
      have : ¬ (0 < ((IK ws).length : Int)) := fun z => h2 (decide_eq_true z)
      rw [IK_len] at this
      omega
theorem scML : FnScope ["self", "name", "links", "link"] ["self", "name", "links"] (defScope sML) := ⟨rfl, rfl, rfl, by decide +kernel, rfl, by decide +kernel, by decide +kernel⟩
theorem ok_look {f C CR fS fI : Addr} {fd fdS : FuncData} (F : Fun K "look" "Marks.look" sML f fd) (T : MTxt K mg C) (B : Blt mg) (FS : Fun K "shade" "Marks.shade" sMS fS fdS) (bS : Binds K fdS ["self", "name"] []) (mS : Meth K C "shade" fS) (R : KwE.ErrTxt P K mg "Refused" CR fI) :
    FnOk P w K mg base (L2.CX P w) 3 f fd ["self", "name", "links"] (spLook C CR K) := by
  refine F.okX scML (fun vs H Q E h => ?_) (fun cdv A outer s H vs Q E hr h => ?_)
  · obtain ⟨p, dm, dw, t, ms, ws, ls, n, rfl, _⟩ := h
    rfl
  · obtain ⟨p, dm, dw, t, ms, ws, ls, n, rfl, M, hl, hl2, hl3, hS, nd, hsub, k1, k2⟩ := h
    have hu := hu_of hr
    obtain ⟨⟨dx, h1⟩, hm, hw, ne⟩ := id M
    have hr1 : Room 1 _ := hr.mono (by decide)
    refine ⟨_, pss_cons (ps_if (pt_cmp (pc_dnotin hu (pv 1) (pe_fld (pv 0) rfl))) (pss_one (ps_raiseE rfl R hr (takes_of rfl rfl rfl rfl) (pa_cons (pv 1) pa_nil))) pss_nil)
      (pss_cons (ps_ddel (pe_fld (pv 0) rfl) (pv 1))
      (pss_one (ps_ret (pe_callTy call_tuple_of (by rfl) T.tup (by decide +kernel) (pa_cons
        (pe_lc (own := [("link", 3)]) (g := gName 3) (by rfl) scML.nd (pi_tup (pv 2)) (blkOk_by (own := [("link", 3)]) (N := ["self", "name", "links", "link"]) (sc := defScope sML) (by decide +kernel)) (fun _ _ _ _ _ => pg_name (i := 3) scML.nd rfl (Or.inl rfl))
          (fun _ _ _ _ _ => pts_one (pt_val (pe_meth (pv 0) T.cl mS (ok_shade FS T) hr1 bS .nil pass0 (pa_cons (pv 3) pa_nil)))) (fun _ _ _ _ _ => pv 3)) pa_nil))))), ?_⟩
    refine ⟨_, rfl, _, rfl, p, C, dx, _, _, rfl, h1, T.cl, T.nW, flds_w _ _, dw, _, rfl, DGet.k (k := Sum.inl n) hw, _, rfl, ?_⟩
    rw [valV_IK]
    by_cases hn : n ∈ ws
    · rw [if_pos hn]
      refine iteF ?_
      refine ⟨_, rfl, p, C, dx, _, _, rfl, h1, T.cl, T.nW, flds_w _ _, _, rfl, dw, _, Sum.inl n, rfl, hw, rfl, (by rw [valV_IK, if_pos hn]; rfl), ?_⟩
      rw [dropK_IK]
      generalize ew : ws.filter (fun m => decide (m ≠ n)) = ws'
      have hws' : ∀ x ∈ ws', x ∈ ws := fun x hx => by subst ew; exact (List.mem_filter.mp hx).1
      have hwl : ws'.length ≤ ws.length := by subst ew; exact List.length_filter_le _ _
      generalize eh : upd H dw (.dK (IK ws')) = H1
      have F1 : Fr2 dm dw H H1 := by subst eh; exact Fr2.up2
      have M1 : MarksAt C H1 p dm dw ms ws' := by
        subst eh
        exact ⟨⟨dx, by rw [upd_ne M.pw]; exact h1⟩, by rw [upd_ne ne]; exact hm, upd_same, ne⟩
      have tdm : SqT K H1 t (ls.map V.int) := by
        subst eh
        rcases hS with (h | ⟨o, h⟩) | h
        · exact .inl (.inl (by rw [upd_ne (ne_of h hw (by intro z; cases z))]; exact h))
        · exact .inl (.inr ⟨o, by rw [upd_ne (ne_of h hw (by intro z; cases z))]; exact h⟩)
        · exact .inr h
      refine ⟨_, rfl, t, rfl, ⟨_, tdm⟩, fun D hD => ?_⟩
      have ndm : D ≠ dm := (ne_of_none M1.m hD).symm
      have ndw : D ≠ dw := (ne_of_none M1.w hD).symm
      refine lc_it (walkI_tup (K := K) (a := t) (ns := ls)) (fun i H' => Fr2 dm dw H H' ∧ MarksAt C H' p dm dw (ms ++ newOf ms (ls.take i)) (ws' ++ newOf ms (ls.take i)) ∧ H' D = some (.lst ((newOf ms (ls.take i)).map V.int)) ∧ SqT K H' t (ls.map V.int)) ⟨?_, ?_, upd_same, ?_⟩ (fun i H' _ q => q.2.2.2) ?_ ?_
      · exact F1.trans (Fr2.of (Same.new hD))
      · show MarksAt C _ p dm dw (ms ++ []) (ws' ++ [])
        rw [List.append_nil, List.append_nil]
        exact M1.keep (Same.new hD)
      · exact (Same.new hD).seqT tdm
      · rintro i x H2 H3 hi ⟨f2, M2, d2, t2⟩ ⟨rfl, hx⟩
        rw [List.getElem?_map] at hx
        have hn' : ls[i]? = some ls[i] := List.getElem?_eq_getElem hi
        rw [hn'] at hx
        cases hx
        have ht : ls.take (i + 1) = ls.take i ++ [ls[i]] := by rw [List.take_succ, hn']; rfl
        have hlt : ls[i] ∉ ls.take i := fun hin => by
          have : (ls.take i ++ [ls[i]]).Nodup := by rw [← ht]; exact nd.sublist (List.take_sublist _ _)
          rw [List.nodup_append] at this
          exact this.2.2 _ hin _ (List.mem_singleton.mpr rfl) rfl
        have hnl : (newOf ms (ls.take i)).length ≤ 450 := by
          have h1 : (newOf ms (ls.take i)).length ≤ (ls.take i).length := List.length_filter_le _ _
          have h2 : (ls.take i).length ≤ ls.length := by rw [List.length_take]; omega
          omega
        have hnw : ls[i] ∉ newOf ms (ls.take i) := fun h => hlt (List.mem_filter.mp h).1
        have hnew : newOf ms (ls.take (i + 1)) = if ls[i] ∈ ms then newOf ms (ls.take i) else newOf ms (ls.take i) ++ [ls[i]] := by
          rw [ht]
          unfold newOf
          rw [List.filter_append]
          by_cases z : ls[i] ∈ ms
          · rw [if_pos z, List.filter_cons_of_neg (by simpa using z), List.filter_nil, List.append_nil]
          · rw [if_neg z, List.filter_cons_of_pos (by simpa using z), List.filter_nil]
        refine ⟨rfl, _, rfl, p, _, _, rfl, M2.ob.choose_spec, flds_no _ _ (by decide +kernel) (by decide +kernel), _, rfl, p, dm, dw, _, _, _, rfl, M2, (by rw [List.length_append]; omega), (by rw [List.length_append]; omega), (fun h => ?_), (fun h => ⟨_, rfl, iteF ?_⟩), (fun h H4 f4 M4 => ⟨_, rfl, iteT ?_⟩)⟩
        · rcases List.mem_append.mp h with h | h
          · exact List.mem_append_left _ (hsub _ (hws' _ h))
          · exact absurd h hnw
        · have hm' : ls[i] ∈ ms := (List.mem_append.mp h).resolve_right hnw
          rw [hnew, if_pos hm']
          exact ⟨f2, M2, d2, t2⟩
        · have hm' : ls[i] ∉ ms := fun z => h (List.mem_append_left _ z)
          have d4 := f4 D _ d2 ndm ndw
          have n4 : H D = none := by
            cases q : H D with
            | none => rfl
            | some o => exact absurd (F1 D _ q ndm ndw) (by rw [hD]; intro z; cases z)
          refine ⟨_, rfl, _, d4, (by rw [List.length_map]; exact small1000 (by omega)), ?_⟩
          rw [hnew, if_neg hm']
          have pD : p ≠ D := (M4.ob.elim fun dx z => ne_of z d4 (by intro z; cases z))
          refine ⟨fun c o e n1 n2 => ?_, ⟨?_, ?_, ?_, M4.ne⟩, ?_, ?_⟩
          · rw [upd_ne (ne_of_none e n4)]
            exact f4 c o (f2 c o e n1 n2) n1 n2
          · rw [upd_ne pD]; exact M4.ob
          · rw [upd_ne ndm.symm, ← List.append_assoc]; exact M4.m
          · rw [upd_ne ndw.symm, ← List.append_assoc]; exact M4.w
          · rw [upd_same, List.map_append]; rfl
          · rcases t2 with (h | ⟨o, h⟩) | h
            · exact .inl (.inl (by rw [upd_ne (ne_of h d2 (by intro z; cases z))]; exact f4 _ _ h (ne_of h M2.m (by intro z; cases z)) (ne_of h M2.w (by intro z; cases z))))
            · exact .inl (.inr ⟨o, by rw [upd_ne (ne_of h d2 (by intro z; cases z))]; exact f4 _ _ h (ne_of h M2.m (by intro z; cases z)) (ne_of h M2.w (by intro z; cases z))⟩)
            · exact .inr h
      · rintro H2 ⟨f2, M2, d2, t2⟩
        rw [List.take_length] at M2 d2
        refine ⟨D, _, rfl, .inl ⟨SqL.of d2, fun l hl => ?_⟩⟩
        have n2 : H l = none := by
          cases q : H l with
          | none => rfl
          | some o =>
            by_cases z1 : l = dm
            · rw [z1, M2.m] at hl; cases hl
            · by_cases z2 : l = dw
              · rw [z2, M2.w] at hl; cases hl
              · exact absurd (f2 l _ q z1 z2) (by rw [hl]; intro z; cases z)
        have := k1 hn
        rw [ew] at this
        exact this _ l (f2.trans (Fr2.of (Same.new hl))) (M2.keep (Same.new hl)) n2 upd_same
    · rw [if_neg hn]
      refine iteT ?_
      refine ⟨_, rfl, _, rfl, fun d hd => k2 hn d hd⟩
end
end K52
namespace K52
open PySem L2
/-! ### links: names, and what each leads to -/
structure LinksAt (K : PySem.W.Frag) (H : Hp) (L : Addr) (names : List Int) (nb : Int → List Int) : Prop where
  d : ∃ ps : List (Int × V), H L = some (.dK (ikv ps)) ∧ ps.map (·.1) = names ∧ ∀ n ∈ names, ∃ t, ps.lookup n = some (.ref t) ∧ SqT K H t ((nb n).map V.int)
theorem LinksAt.keep {K : PySem.W.Frag} {H H' : Hp} {L : Addr} {names : List Int} {nb : Int → List Int} (h : LinksAt K H L names nb) (s : Same H H') : LinksAt K H' L names nb := by
  obtain ⟨ps, h1, h2, h3⟩ := h.d
  exact ⟨ps, s _ _ h1, h2, fun n hn => (h3 n hn).imp fun t q => ⟨q.1, s.seqT q.2⟩⟩
theorem LinksAt.get {K : PySem.W.Frag} {H : Hp} {L : Addr} {names : List Int} {nb : Int → List Int} {n : Int} (h : LinksAt K H L names nb) (hn : n ∈ names) : ∃ t, DGet H L (.int n) (some (.ref t)) ∧ SqT K H t ((nb n).map V.int) := by
  obtain ⟨ps, h1, h2, h3⟩ := h.d
  obtain ⟨t, ht, hs⟩ := h3 n hn
  refine ⟨t, ?_, hs⟩
  have := DGet.k (k := Sum.inl n) h1
  rwa [valV_ikv, ht] at this
theorem lookup_none {ps : List (Int × V)} {n : Int} (h : n ∉ ps.map (·.1)) : ps.lookup n = none := by
  induction ps with
  | nil => rfl
  | cons p ps ih =>
    have h1 : ¬ n = p.1 := fun e => h (by rw [e]; exact List.mem_cons_self)
    have h2 : n ∉ ps.map (·.1) := fun e => h (List.mem_cons_of_mem _ e)
    have : (n == p.1) = false := by simpa using h1
    obtain ⟨a, b⟩ := p
    simp only [List.lookup, this]
    exact ih h2
/-! ### the mathematics of reach -/
inductive Reach (nb : Int → List Int) (S : List Int) : Int → Prop
  | base {x : Int} : x ∈ S → Reach nb S x
  | step {x y : Int} : Reach nb S x → y ∈ nb x → Reach nb S y
/-- one round: found has all starts, all that it has is reached; it is closed, or as great as the round's number -/
structure Round (nb : Int → List Int) (S names : List Int) (i : Nat) (found : List Int) : Prop where
  nd : found.Nodup
  sub : ∀ x ∈ found, x ∈ names
  base : ∀ x ∈ S, x ∈ found
  only : ∀ x ∈ found, Reach nb S x
  grow : (∀ x ∈ found, ∀ y ∈ nb x, y ∈ found) ∨ i ≤ found.length
theorem Round.next {nb : Int → List Int} {S names found found' : List Int} {i : Nat} (h : Round nb S names i found) (cl : ∀ x ∈ names, ∀ y ∈ nb x, y ∈ names) (nd : found'.Nodup) (hm : ∀ y, y ∈ found' ↔ y ∈ found ∨ ∃ x ∈ found, y ∈ nb x) : Round nb S names (i + 1) found' := by
  refine ⟨nd, fun y hy => ?_, fun x hx => (hm x).mpr (.inl (h.base x hx)), fun y hy => ?_, ?_⟩
  · rcases (hm y).mp hy with q | ⟨x, hx, q⟩
    · exact h.sub y q
    · exact cl x (h.sub x hx) y q
  · rcases (hm y).mp hy with q | ⟨x, hx, q⟩
    · exact h.only y q
    · exact .step (h.only x hx) q
  · by_cases c : ∀ x ∈ found, ∀ y ∈ nb x, y ∈ found
    · left
      intro x hx y hy
      have hx' : x ∈ found := by
        rcases (hm x).mp hx with q | ⟨z, hz, q⟩
        · exact q
        · exact c z hz x q
      exact (hm y).mpr (.inl (c x hx' y hy))
    · right
      have hi := h.grow.resolve_left c
      have : ∃ x y, x ∈ found ∧ y ∈ nb x ∧ y ∉ found := Classical.byContradiction fun no => c fun x hx y hy => Classical.byContradiction fun z => no ⟨x, y, hx, hy, z⟩
      obtain ⟨x, y, hx, hy, hn⟩ := this
      have := sub_len (m := y :: found) (l := found') (List.nodup_cons.mpr ⟨hn, h.nd⟩) fun z hz => by
        rcases List.mem_cons.mp hz with rfl | hz
        · exact (hm z).mpr (.inr ⟨x, hx, hy⟩)
        · exact (hm z).mpr (.inl hz)
      simp only [List.length_cons] at this
      omega
theorem Round.last {nb : Int → List Int} {S names found : List Int} (h : Round nb S names names.length found) (cl : ∀ x ∈ names, ∀ y ∈ nb x, y ∈ names) : ∀ x, x ∈ found ↔ Reach nb S x := by
  have c : ∀ x ∈ found, ∀ y ∈ nb x, y ∈ found := by
    rcases h.grow with c | c
    · exact c
    · have q := sub_nodup h.nd h.sub c
      exact fun x hx y hy => q.2 y (cl x (h.sub x hx) y hy)
  refine fun x => ⟨h.only x, fun r => ?_⟩
  induction r with
  | base hx => exact h.base _ hx
  | step _ hy ih => exact c _ ih _ hy
abbrev sReached : Stmt := topS 14
def spReached (K : PySem.W.Frag) : Sp := fun vs H Q _ => ∃ (L a : Addr) (names S : List Int) (nb : Int → List Int), vs = [.ref L, .ref a] ∧ LinksAt K H L names nb ∧ SqL K H a (S.map V.int) ∧ S.length ≤ 60 ∧ names.length ≤ 40 ∧ (∀ n ∈ names, (nb n).length ≤ 40) ∧ (∀ x ∈ names, ∀ y ∈ nb x, y ∈ names) ∧ (∀ x ∈ S, x ∈ names) ∧
  ∀ (r : List Int) H' p, Same H H' → H p = none → H' p = some (.lst (r.map V.int)) → r.length ≤ names.length → (∀ x, x ∈ r ↔ Reach nb S x) → Q (.ref p) H'
section
variable {P : Program} {w : World} {K : PySem.W.Frag} {mg : Str → Option Value} {base : Heap}
theorem scReached : FnScope ["links", "starts", "found", "turn", "more", "name"] ["links", "starts"] (defScope sReached) := ⟨rfl, rfl, rfl, by decide +kernel, rfl, by decide +kernel, by decide +kernel⟩
theorem ok_reached {f : Addr} {fd : FuncData} (F : Fun K "_law_reached" "_law_reached" sReached f fd) (B : Blt mg) : FnOk P w K mg base CX0 1 f fd ["links", "starts"] (spReached K) := by
  refine F.ok scReached (fun vs H Q E h => ?_) (fun cdv A outer s H vs Q E hr h => ?_)
  · obtain ⟨L, a, names, S, nb, rfl, _⟩ := h
    rfl
  · obtain ⟨L, a, names, S, nb, rfl, hL, hS, hl1, hl2, hl3, cl, hsub, k⟩ := h
    have hu := hu_of hr
    refine ⟨_, pss_cons (ps_set (i := 2) scReached.nd rfl (.inl rfl) (c_sortedSet rfl B (c_set rfl B (pv 1))))
      (pss_cons (ps_for PassesOwn.never rfl (i_range B (c_lenD B (pv 0))) (pg_name (i := 3) scReached.nd rfl (.inl rfl))
        (pss_cons (ps_set (i := 4) scReached.nd rfl (.inl rfl) (c_list B (pv 2)))
        (pss_cons (ps_for PassesOwn.never rfl (pi_list (pv 2)) (pg_name (i := 5) scReached.nd rfl (.inl rfl))
          (pss_one (ps_set (i := 4) scReached.nd rfl (.inl rfl) (pe_op op_cat (pv 4) (c_list B (pe_dget hu (pv 0) (pv 5) (fun _ _ => rfl)))))))
        (pss_one (ps_set (i := 2) scReached.nd rfl (.inl rfl) (c_sortedSet rfl B (c_set rfl B (pv 4))))))))
      (pss_one (ps_ret (pv 2)))), ?_⟩
    obtain ⟨ps, hd, hps, hat⟩ := id hL.d
    have hpl : (ikv ps).length = names.length := by rw [← hps, List.length_map, List.length_map]
    refine ⟨_, rfl, a, S, rfl, .inl hS, by omega, fun q c m nd hm hc hcl nq => ⟨q, _, c, rfl, upd_same, by omega, fun r0 p0 hinc hmem hlen np0 => ?_⟩⟩
    have nd0 : r0.Nodup := hinc.imp fun h => by omega
    have hm0 : ∀ x, x ∈ r0 ↔ x ∈ S := fun x => (hmem x).trans ⟨of_decide_eq_true, decide_eq_true⟩
    have hq0 : p0 ≠ q := fun z => by subst z; rw [upd_same] at np0; cases np0
    have np : H p0 = none := by rwa [upd_ne hq0] at np0
    have s0 : Same H (upd (upd H q (SetO w q (fun j => decide (j ∈ S)) c)) p0 (.lst (r0.map V.int))) := (Same.new nq).put np
    refine ⟨_, rfl, L, _, rfl, s0 _ _ hd, names.length, by rw [hpl], ?_⟩
    refine ⟨by omega, by omega, ?_⟩
    refine for_range (lo := 0) (n := names.length) (fun i σ H' => ∃ (found : List Int) (q0 : Addr) (x3 x4 x5 : Option V), σ = [some (.ref L), some (.ref a), some (.ref q0), x3, x4, x5] ∧ Same H H' ∧ H q0 = none ∧ H' q0 = some (.lst (found.map V.int)) ∧ Round nb S names i found)
      ⟨r0, p0, none, none, none, rfl, s0, np, upd_same, nd0, fun x hx => hsub x ((hm0 x).mp hx), fun x hx => (hm0 x).mpr hx, fun x hx => .base ((hm0 x).mp hx), .inr (Nat.zero_le _)⟩ ?_ ?_
    · rintro i σ H1 hi ⟨found, q0, x3, x4, x5, rfl, s1, nq0, h1, R⟩
      have hfl : found.length ≤ names.length := sub_len R.nd R.sub
      refine ⟨_, rfl, q0, _, rfl, .inl (SqL.of h1), fun m nm => ?_⟩
      have hq0m : q0 ≠ m := ne_of_none h1 nm
      have nmH : H m = none := s1.free nm
      refine ⟨_, rfl, q0, rfl, ⟨_, SqL.of (by rw [upd_ne hq0m]; exact h1)⟩, for_list (K := K) (a := q0) (xs := found.map V.int) (fun j σ H' => ∃ (acc : List Int) (m : Addr) (x3 x5 : Option V), σ = [some (.ref L), some (.ref a), some (.ref q0), x3, some (.ref m), x5] ∧ Same H H' ∧ H' q0 = some (.lst (found.map V.int)) ∧ H' m = some (.lst (acc.map V.int)) ∧ acc.length ≤ found.length + 40 * j ∧
          ∀ y, y ∈ acc ↔ y ∈ found ∨ ∃ x ∈ found.take j, y ∈ nb x)
        ⟨found, m, _, x5, rfl, s1.put nmH, by rw [upd_ne hq0m]; exact h1, upd_same, by omega, fun y => ⟨.inl, fun z => z.elim id fun ⟨x, hx, _⟩ => by cases hx⟩⟩
        (fun j σ H' _ ⟨_, _, _, _, _, _, e, _⟩ => SqL.of e) ?_ ?_⟩
      · rintro j y σ H2 hj ⟨acc, m2, x3, x5, rfl, s2, e1, e2, hal, hacc⟩
        rw [List.getElem?_map] at hj
        have hjl : j < found.length := by
          cases q : found[j]? with
          | none => rw [q] at hj; cases hj
          | some z => exact (List.getElem?_eq_some_iff.mp q).1
        have hg : found[j]? = some found[j] := List.getElem?_eq_getElem hjl
        rw [hg] at hj
        cases hj
        have hin : found[j] ∈ names := R.sub _ (List.getElem_mem hjl)
        obtain ⟨t, hget, ht⟩ := (hL.keep s2).get hin
        refine ⟨_, rfl, _, rfl, _, rfl, L, _, rfl, hget, t, _, rfl, .inr ht, fun l nl => ?_⟩
        have hm2l : m2 ≠ l := ne_of_none e2 nl
        have hlen : (acc.map V.int).length + ((nb found[j]).map V.int).length ≤ sizeLine := by
          have h40 := hl3 _ hin
          rw [List.length_map, List.length_map]
          exact Nat.le_of_lt (Nat.lt_of_le_of_lt (m := 4000) (by omega) (by decide))
        refine ⟨m2, l, _, _, rfl, rfl, (by rw [upd_ne hm2l]; exact e2), upd_same, hlen, fun p2 np2 => ?_⟩
        have hp2l : p2 ≠ l := fun z => by subst z; rw [upd_same] at np2; cases np2
        have np2' : H2 p2 = none := by rwa [upd_ne hp2l] at np2
        have nlH : H l = none := s2.free nl
        have np2H : H p2 = none := s2.free np2'
        refine ⟨acc ++ nb found[j], p2, x3, _, rfl, (s2.put nlH).put np2H, ?_, ?_, ?_, ?_⟩
        · rw [upd_ne (ne_of_none e1 np2'), upd_ne (ne_of_none e1 nl)]; exact e1
        · rw [upd_same, List.map_append]
        · have h40 := hl3 _ hin
          rw [List.length_append]; omega
        · intro y
          have ht : found.take (j + 1) = found.take j ++ [found[j]] := by rw [List.take_succ, hg]; rfl
          rw [List.mem_append, hacc, ht]
          constructor
          · rintro ((z | ⟨x, hx, z⟩) | z)
            · exact .inl z
            · exact .inr ⟨x, List.mem_append_left _ hx, z⟩
            · exact .inr ⟨_, List.mem_append_right _ (List.mem_singleton.mpr rfl), z⟩
          · rintro (z | ⟨x, hx, z⟩)
            · exact .inl (.inl z)
            · rcases List.mem_append.mp hx with hx | hx
              · exact .inl (.inr ⟨x, hx, z⟩)
              · rw [List.mem_singleton.mp hx] at z
                exact .inr z
      · rintro σ H2 ⟨acc, m2, x3, x5, rfl, s2, e1, e2, hal, hacc⟩
        rw [List.length_map] at hal hacc
        rw [List.take_length] at hacc
        have hacl : acc.length ≤ 4000 := by omega
        have hsubA : ∀ x ∈ acc, x ∈ names := fun x hx => ((hacc x).mp hx).elim (R.sub x) fun ⟨z, hz, hy⟩ => cl z (R.sub z hz) x hy
        refine ⟨_, rfl, m2, acc, rfl, .inl (SqL.of e2), hacl, fun q c m nd hm hc hcl nq => ?_⟩
        have hml := sub_len nd fun x hx => hsubA x ((hm x).mp hx)
        refine ⟨q, _, c, rfl, upd_same, by omega, fun r1 p1 hinc hmem hlen np1 => ?_⟩
        have nd1 : r1.Nodup := hinc.imp fun h => by omega
        have hqp : p1 ≠ q := fun z => by subst z; rw [upd_same] at np1; cases np1
        have np1' : H2 p1 = none := by rwa [upd_ne hqp] at np1
        have npH : H p1 = none := s2.free np1'
        have nqH : H q = none := s2.free nq
        refine ⟨r1, p1, x3, _, x5, rfl, (s2.put nqH).put npH, npH, upd_same, R.next cl nd1 fun y => ?_⟩
        rw [hmem]
        exact ⟨fun z => (hacc y).mp (of_decide_eq_true z), fun z => decide_eq_true ((hacc y).mpr z)⟩
    · rintro σ H1 ⟨found, q0, x3, x4, x5, rfl, s1, nq0, h1, R⟩
      exact ⟨_, rfl, k found H1 q0 s1 nq0 h1 (sub_len R.nd R.sub) (R.last cl)⟩
end
end K52
namespace K52
open PySem L2
/-- the scope of a comprehension: its own names, and what it takes from around -/
abbrev cSc (own free : List Str) : Scope := { kind := .function, names := ((".0" : Str), .local) :: (own.map fun x => (x, .local)) ++ (free.map fun x => (x, .cell)), isGenerator := false, isCoroutine := false }
abbrev sHold : Stmt := topS 15
def Holds (names : List Int) (nb : Int → List Int) (roots marked waiting : List Int) : Prop :=
  marked.Nodup ∧ (∀ x ∈ marked ++ waiting ++ roots, x ∈ names ∧ x ∈ marked) ∧ ∀ x ∈ marked, x ∉ waiting → ∀ y ∈ nb x, y ∈ marked
instance (names : List Int) (nb : Int → List Int) (roots marked waiting : List Int) : Decidable (Holds names nb roots marked waiting) := by unfold Holds; exact inferInstance
def spHold (K : PySem.W.Frag) : Sp := fun vs H Q _ => ∃ (L ra ma wa : Addr) (names roots marked waiting : List Int) (nb : Int → List Int), vs = [.ref L, .ref ra, .ref ma, .ref wa] ∧ LinksAt K H L names nb ∧ SqL K H ra (roots.map V.int) ∧ SqL K H ma (marked.map V.int) ∧ SqL K H wa (waiting.map V.int) ∧
  roots.length ≤ 300 ∧ marked.length ≤ 300 ∧ waiting.length ≤ 300 ∧ (∀ n ∈ names, (nb n).length ≤ 40) ∧ ∀ H', Same H H' → Q (.bl (decide (Holds names nb roots marked waiting))) H'
theorem LinksAt.no {K : PySem.W.Frag} {H : Hp} {L : Addr} {names : List Int} {nb : Int → List Int} {n : Int} (h : LinksAt K H L names nb) (hn : n ∉ names) : DGet H L (.int n) none := by
  obtain ⟨ps, h1, h2, h3⟩ := h.d
  have := DGet.k (k := Sum.inl n) h1
  rwa [valV_ikv, lookup_none (by rw [h2]; exact hn)] at this
theorem LinksAt.getS {K : PySem.W.Frag} {H : Hp} {L : Addr} {names : List Int} {nb : Int → List Int} {n : Int} (h : LinksAt K H L names nb) (hn : n ∈ names) : ∃ t, (∀ H', Same H H' → DGet H' L (.int n) (some (.ref t))) ∧ SqT K H t ((nb n).map V.int) := by
  obtain ⟨ps, h1, h2, h3⟩ := h.d
  obtain ⟨t, ht, hs⟩ := h3 n hn
  refine ⟨t, fun H' s => ?_, hs⟩
  have := DGet.k (k := Sum.inl n) (s _ _ h1)
  rwa [valV_ikv, ht] at this
theorem big {n : Nat} (h : n ≤ 4000) : n < sizeLine := Nat.lt_of_le_of_lt h (by decide)
section
variable {P : Program} {w : World} {K : PySem.W.Frag} {mg : Str → Option Value} {base : Heap}
theorem scHold : FnScope ["links", "roots", "marked", "waiting", "name", "link"] ["links", "roots", "marked", "waiting"] (defScope sHold) := ⟨rfl, rfl, rfl, by decide +kernel, rfl, by decide +kernel, by decide +kernel⟩
theorem ok_hold {f : Addr} {fd : FuncData} (F : Fun K "_law_hold" "_law_hold" sHold f fd) (B : Blt mg) : FnOk P w K mg base CX0 1 f fd ["links", "roots", "marked", "waiting"] (spHold K) := by
  refine F.ok scHold (fun vs H Q E h => ?_) (fun cdv A outer s H vs Q E hr h => ?_)
  · obtain ⟨L, ra, ma, wa, names, roots, marked, waiting, nb, rfl, _⟩ := h
    rfl
  · obtain ⟨L, ra, ma, wa, names, roots, marked, waiting, nb, rfl, hL, hR, hM, hW, l1, l2, l3, l4, k⟩ := h
    have hu := hu_of hr
    refine ⟨_, pss_cons (ps_if (PW.pt (pw_or (pt_cmpR op_ne (c_lenS B (c_set rfl B (pv 2))) (c_len B (pv 2)) (nomark _))
        (pw_or1 (pt_cmpR (op_neD hr.units)
          (pe_lc (own := [("name", 4)]) (g := gName 4) (by rfl) scHold.nd (pi_list (pe_op op_cat (pe_op op_cat (c_list B (pv 2)) (c_list B (pv 3))) (c_list B (pv 1)))) (blkOk_by (own := [("name", 4)]) (N := ["links", "roots", "marked", "waiting", "name", "link"]) (sc := defScope sHold) (by decide +kernel)) (fun _ _ _ _ _ => pg_name (i := 4) scHold.nd rfl (Or.inl rfl))
            (fun _ _ _ _ _ => pts_one (PW.pt (pw_or (pt_cmp (pc_dnotin hu (pv 4) (pv 0))) (pw_or1 (pt_cmpR (op_notInK (K := K) rfl) (pv 4) (pv 2) (by rfl)))))) (fun _ _ _ _ _ => pv 4))
          (pe_lst pa_nil) (nomark _))))) (pss_one (ps_ret pe_bl)) pss_nil)
      (pss_one (ps_ret (pe_cmpR (op_eqD hr.units)
        (pe_lc (own := [("name", 4)]) (g := gName 4) (by rfl) scHold.nd (pi_list (pv 2)) (blkOk_by (own := [("name", 4)]) (N := ["links", "roots", "marked", "waiting", "name", "link"]) (sc := defScope sHold) (by decide +kernel)) (fun _ _ _ _ _ => pg_name (i := 4) scHold.nd rfl (Or.inl rfl))
            (fun _ _ _ _ _ => pts_one (PW.pt (pw_and (pt_cmpR (op_notInK (K := K) rfl) (pv 4) (pv 3) (by rfl))
              (pw_and1 (pt_cmpR (op_neDK (K := K) rfl hr.units) (pe_lc (own := [("link", 5)]) (g := gName 5) (by rfl) scHold.nd (pi_tupK (K := K) rfl (by exact pe_dget hu (pv 0) (pv 4) (fun _ _ => rfl))) (blkOk_by (own := [("link", 5)]) (N := ["links", "roots", "marked", "waiting", "name", "link"]) (sc := cSc ["name"] ["links", "marked", "waiting"]) (by decide +kernel)) (fun _ _ _ _ _ => pg_name (i := 5) scHold.nd rfl (Or.inl rfl))
                (fun _ _ _ _ _ => pts_one (pt_cmpR (op_notInK (K := K) rfl) (pv 5) (pv 2) (by rfl))) (fun _ _ _ _ _ => pv 5)) (pe_lst pa_nil) (nomark _)))))) (fun _ _ _ _ _ => pv 4))
        (pe_lst pa_nil) (nomark _)))), ?_⟩
    have neg : ∀ {H' : Hp}, Same H H' → ¬ Holds names nb roots marked waiting → Q (.bl false) H' := fun s h => by
      have := k _ s
      rwa [decide_eq_false h] at this
    refine ⟨_, rfl, ma, marked, rfl, .inl hM, by omega, fun q c m nd hm hc hcl nq => ?_⟩
    have s0 := (Same.refl H).up (o := SetO w q (fun j => decide (j ∈ marked)) c) nq
    have hcn : c = marked.length ↔ marked.Nodup := by
      constructor
      · intro e
        exact (sub_nodup nd (fun x hx => (hm x).mp hx) (by omega)).1
      · intro e
        have h1 := sub_len e fun x hx => (hm x).mpr hx
        omega
    refine ⟨q, _, c, rfl, upd_same, fun m' nd' hm' hc' => ⟨_, rfl, ma, _, rfl, .inl (s0.seq hM), rfl, _, rfl, ?_⟩⟩
    by_cases hnd : marked.Nodup
    · have e : (V.int (c : Nat) = V.int ((marked.map V.int).length : Nat)) := by rw [List.length_map, hcn.mpr hnd]
      rw [decide_eq_true e]
      refine iteF ?_
      refine ⟨_, rfl, ma, _, rfl, .inl (s0.seq hM), fun a1 n1 => ⟨_, rfl, wa, _, rfl, .inl ((s0.up n1).seq hW), fun a2 n2 => ⟨a1, a2, _, _, rfl, rfl, Same.at n2 upd_same, upd_same, ?_, fun a3 n3 => ⟨_, rfl, ra, _, rfl, .inl ((((s0.up n1).up n2).up n3).seq hR), fun a4 n4 => ⟨a3, a4, _, _, rfl, rfl, Same.at n4 upd_same, upd_same, ?_, fun a5 n5 => ⟨a5, rfl, ⟨_, SqL.of upd_same⟩, fun D nD => ?_⟩⟩⟩⟩⟩⟩
      · rw [List.length_map, List.length_map]; exact Nat.le_of_lt (big (by omega))
      · rw [List.length_append, List.length_map, List.length_map, List.length_map]; exact Nat.le_of_lt (big (by omega))
      have s5 := ((((s0.up n1 (o := .lst (marked.map V.int))).up n2 (o := .lst (waiting.map V.int))).up n3 (o := .lst (marked.map V.int ++ waiting.map V.int))).up n4 (o := .lst (roots.map V.int))).up n5 (o := .lst (marked.map V.int ++ waiting.map V.int ++ roots.map V.int))
      have e5 : marked.map V.int ++ waiting.map V.int ++ roots.map V.int = (marked ++ waiting ++ roots).map V.int := by rw [List.map_append, List.map_append]
      rw [e5] at nD s5 ⊢
      refine lcF (walkI_list (K := K) (a := a5) (ns := marked ++ waiting ++ roots)) (fun n => !(decide (n ∈ names) && decide (n ∈ marked))) V.int nD (big (by simp only [List.length_append]; omega)) (fun H' s => SqL.of (s _ _ upd_same)) ?_ ?_
      · intro n H' acc N hn s6 hD hacc kt kf
        have s6' := s5.trans s6
        have fl := flat_ints marked
        refine ⟨rfl, _, rfl, _, rfl, L, ?_⟩
        by_cases h1 : n ∈ names
        · obtain ⟨t, ht, _⟩ := (hL.keep s6').get h1
          refine ⟨_, rfl, ht, _, rfl, iteF ?_⟩
          refine ⟨_, rfl, _, rfl, ma, _, rfl, .inl (s6'.seq hM), rfl, fl, _, rfl, ?_⟩
          rw [inV_ints]
          by_cases h2 : n ∈ marked
          · rw [decide_eq_true h2]
            exact iteF (kf (by simp [h1, h2]) _ (Same.refl _))
          · rw [decide_eq_false h2]
            exact iteT ⟨_, rfl, _, hD, hacc, kt (by simp [h2]) _ (Same.refl _)⟩
        · refine ⟨_, rfl, (hL.keep s6').no h1, _, rfl, iteT ?_⟩
          exact iteT ⟨_, rfl, _, hD, hacc, kt (by simp [h1]) _ (Same.refl _)⟩
      · intro H6 s6 hD
        have s6' := s5.trans s6
        generalize er : (marked ++ waiting ++ roots).filter (fun n => !(decide (n ∈ names) && decide (n ∈ marked))) = r at hD
        have hr0 : r = [] ↔ ∀ x ∈ marked ++ waiting ++ roots, x ∈ names ∧ x ∈ marked := by
          subst er
          rw [List.filter_eq_nil_iff]
          exact ⟨fun h x hx => by simpa using h x hx, fun h x hx => by simpa using h x hx⟩
        refine ⟨by decide, fun l nl => ⟨_, _, .lst (SqL.of (Same.at nl hD)) (dp_ints r), .lst (SqL.of upd_same) .nil, shaped_list _, shaped_list [], _, rfl, ?_⟩⟩
        have s7 := s6'.up (o := .lst []) nl
        rw [show PyData.eqv (.list (dInts r)) (.list []) = decide (r = []) from eqv_list r []]
        by_cases hre : r = []
        · rw [decide_eq_true hre]
          refine iteF ?_
          have hall := hr0.mp hre
          refine ⟨_, rfl, ma, rfl, ⟨_, s7.seq hM⟩, fun D2 nD2 => ?_⟩
          refine lcF (walkI_list (K := K) (a := ma) (ns := marked)) (fun n => decide (n ∉ waiting ∧ ¬ ∀ y ∈ nb n, y ∈ marked)) V.int nD2 (big (by omega)) (fun H' s => (s7.trans s).seq hM) ?_ ?_
          · intro n H' acc N hn s8 hD hacc kt kf
            have s8' := s7.trans s8
            obtain ⟨hnn, _⟩ := hall n (by simp [hn])
            refine ⟨rfl, _, rfl, _, rfl, wa, _, rfl, .inl (s8'.seq hW), rfl, flat_ints waiting, _, rfl, ?_⟩
            rw [inV_ints]
            by_cases h1 : n ∈ waiting
            · rw [decide_eq_true h1]
              exact iteF (iteF (kf (by simp [h1]) _ (Same.refl _)))
            · rw [decide_eq_false h1]
              refine iteT ?_
              obtain ⟨t, ht, hts⟩ := (hL.keep s8').get hnn
              refine ⟨_, rfl, _, rfl, L, _, rfl, ht, t, rfl, ⟨_, hts⟩, fun D3 nD3 => ?_⟩
              refine lcF (walkI_tup (K := K) (a := t) (ns := nb n)) (fun y => decide (y ∉ marked)) V.int nD3 (big (Nat.le_trans (l4 n hnn) (by decide))) (fun H' s => s.seqT hts) ?_ ?_
              · intro y H9 acc9 N9 hy s9 hD9 hacc9 kt9 kf9
                refine ⟨rfl, _, rfl, _, rfl, ma, _, rfl, .inl ((s8'.trans s9).seq hM), rfl, flat_ints marked, _, rfl, ?_⟩
                rw [inV_ints]
                by_cases h2 : y ∈ marked
                · rw [decide_eq_true h2]
                  exact iteF (kf9 (by simp [h2]) _ (Same.refl _))
                · rw [decide_eq_false h2]
                  exact iteT ⟨_, rfl, _, hD9, hacc9, kt9 (by simp [h2]) _ (Same.refl _)⟩
              · intro H9 s9 hD9
                generalize er2 : (nb n).filter (fun y => decide (y ∉ marked)) = r2 at hD9
                have hr2 : r2 = [] ↔ ∀ x ∈ nb n, x ∈ marked := by
                  subst er2
                  rw [List.filter_eq_nil_iff]
                  exact ⟨fun h x hx => by simpa using h x hx, fun h x hx => by simpa using h x hx⟩
                refine ⟨by decide, fun l9 nl9 => ⟨_, _, .lst (SqL.of (Same.at nl9 hD9)) (dp_ints r2), .lst (SqL.of upd_same) .nil, shaped_list _, shaped_list [], _, rfl, ?_⟩⟩
                rw [show PyData.eqv (.list (dInts r2)) (.list []) = decide (r2 = []) from eqv_list r2 []]
                by_cases h3 : r2 = []
                · rw [decide_eq_true h3]
                  exact iteF (kf (decide_eq_false fun z => z.2 (hr2.mp h3)) _ (s9.up nl9))
                · rw [decide_eq_false h3]
                  exact iteT ⟨_, rfl, _, Same.at nl9 (s9 _ _ hD), hacc, kt (decide_eq_true ⟨h1, fun z => h3 (hr2.mpr z)⟩) _ (s9.up nl9)⟩
          · intro H8 s8 hD8
            generalize er3 : marked.filter (fun n => decide (n ∉ waiting ∧ ¬ ∀ y ∈ nb n, y ∈ marked)) = r3 at hD8
            have hr3 : r3 = [] ↔ ∀ x ∈ marked, x ∉ waiting → ∀ y ∈ nb x, y ∈ marked := by
              subst er3
              rw [List.filter_eq_nil_iff]
              exact ⟨fun h x hx hw => Classical.byContradiction fun z => h x hx (decide_eq_true ⟨hw, z⟩), fun h x hx z => (of_decide_eq_true z).2 (h x hx (of_decide_eq_true z).1)⟩
            refine ⟨by decide, fun l9 nl9 => ⟨_, _, .lst (SqL.of (Same.at nl9 hD8)) (dp_ints r3), .lst (SqL.of upd_same) .nil, shaped_list _, shaped_list [], ?_⟩⟩
            rw [show PyData.eqv (.list (dInts r3)) (.list []) = decide (r3 = []) from eqv_list r3 []]
            have e : decide (r3 = []) = decide (Holds names nb roots marked waiting) := by
              rw [Bool.eq_iff_iff, decide_eq_true_eq, decide_eq_true_eq, hr3]
              exact ⟨fun h => ⟨hnd, hall, h⟩, fun h => h.2.2⟩
            rw [e]
            exact k _ ((s7.trans s8).up nl9)
        · rw [decide_eq_false hre]
          exact iteT (neg s7 fun z => hre (hr0.mpr z.2.1))
    · have e : ¬ (V.int (c : Nat) = V.int ((marked.map V.int).length : Nat)) := fun z => hnd (hcn.mp (by rw [List.length_map] at z; injection z with z; omega))
      rw [decide_eq_false e]
      refine iteT (iteT (neg s0 fun z => hnd z.1))
end
end K52
namespace K52
open PySem L2
abbrev sIsq : Stmt := topS 4
abbrev sMH : Stmt := topS 8
/-- the ints ns in a list or a tuple of one's own making -/
def Sq0 (H : Hp) (a : Addr) (ns : List Int) : Prop := H a = some (.lst (ns.map V.int)) ∨ H a = some (.tup (ns.map V.int))
theorem Sq0.sq {K : PySem.W.Frag} {H : Hp} {a : Addr} {ns : List Int} (h : Sq0 H a ns) : Sq K H a ns := h.imp SqL.of SqT.of
theorem Sq0.keep {H H' : Hp} {a : Addr} {ns : List Int} (h : Sq0 H a ns) (s : Same H H') : Sq0 H' a ns := h.imp (s _ _) (s _ _)
def spIsq : Sp := fun vs H Q _ => ∃ (a : Addr) (ns : List Int), vs = [.ref a] ∧ Sq0 H a ns ∧ ∀ H', Same H H' → Q (.bl true) H'
def spMH (K : PySem.W.Frag) : Sp := fun vs H Q _ => ∃ (L ra ma wa : Addr) (names roots marked waiting : List Int) (nb : Int → List Int), vs = [.ref L, .ref ra, .ref ma, .ref wa] ∧ LinksAt K H L names nb ∧ Sq0 H ra roots ∧ Sq0 H ma marked ∧ Sq0 H wa waiting ∧
  roots.length ≤ 300 ∧ marked.length ≤ 80 ∧ waiting.length ≤ 300 ∧ (∀ n ∈ names, (nb n).length ≤ 40) ∧ ∀ H', Same H H' → Q (.bl (decide (Holds names nb roots marked waiting))) H'
section
variable {P : Program} {w : World} {K : PySem.W.Frag} {mg : Str → Option Value} {base : Heap}
theorem kitAny_l {K : PySem.W.Frag} : PySem.W.kitAny K (.type "list") [.type "list", .type "tuple"] = some true := by
  have h1 : PySem.W.kitOne K (.type "list") (.type "list") = some true := kit_ty (by decide +kernel)
  unfold PySem.W.kitAny
  rw [h1]
theorem kitAny_t {K : PySem.W.Frag} : PySem.W.kitAny K (.type "tuple") [.type "list", .type "tuple"] = some true := by
  have h1 : PySem.W.kitOne K (.type "tuple") (.type "list") = some false := kit_ty (by decide +kernel)
  have h2 : PySem.W.kitOne K (.type "tuple") (.type "tuple") = some true := kit_ty (by decide +kernel)
  unfold PySem.W.kitAny
  rw [h1]
  unfold PySem.W.kitAny
  rw [h2]
theorem scIsq : FnScope ["value"] ["value"] (defScope sIsq) := ⟨rfl, rfl, rfl, by decide +kernel, rfl, by decide +kernel, by decide +kernel⟩
theorem ok_isq {f : Addr} {fd : FuncData} (F : Fun K "is_sequence" "is_sequence" sIsq f fd) (B : Blt mg) : FnOk P w K mg base CX0 1 f fd ["value"] spIsq := by
  refine F.ok scIsq (fun vs H Q E h => ?_) (fun cdv A outer s H vs Q E hr h => ?_)
  · obtain ⟨a, ns, rfl, _⟩ := h
    rfl
  · obtain ⟨a, ns, rfl, hS, k⟩ := h
    refine ⟨_, pss_one (ps_ret (pe_callB call_isiT (by rfl) B.isinstance (by decide +kernel) (pa_cons (pv 0) (pa_cons (pe_tup (pa_cons (pe_bltn (v := .ty "list") (by rfl) B.list (by decide +kernel) rfl) (pa_cons (pe_bltn (v := .ty "tuple") (by rfl) B.tuple (by decide +kernel) rfl) pa_nil))) pa_nil)))), ?_⟩
    refine ⟨_, rfl, by decide, fun t nt => ?_⟩
    rcases hS with h | h
    · exact ⟨_, t, _, .type "list", _, true, rfl, upd_same, .cons (.ty "list") (.cons (.ty "tuple") .nil), .base (.lst (Same.at nt h)), kitAny_l, k _ (Same.new nt)⟩
    · exact ⟨_, t, _, .type "tuple", _, true, rfl, upd_same, .cons (.ty "list") (.cons (.ty "tuple") .nil), .base (.tup (Same.at nt h)), kitAny_t, k _ (Same.new nt)⟩
abbrev nMH : List Str := ["links", "roots", "marked", "waiting", "known", "done", "name", "link"]
theorem scMH : FnScope nMH ["links", "roots", "marked", "waiting"] (defScope sMH) := ⟨rfl, rfl, rfl, by decide +kernel, rfl, by decide +kernel, by decide +kernel⟩
theorem ok_mh {f fI : Addr} {fd fdI : FuncData} (F : Fun K "marks_hold" "marks_hold" sMH f fd) (B : Blt mg) (mI : mg "is_sequence" = some (.ref fI)) (kI : PySem.W.keepIn K (.ref fI) = true) (FI : Fun K "is_sequence" "is_sequence" sIsq fI fdI) (bI : Binds K fdI ["value"] []) :
    FnOk P w K mg base CX0 2 f fd ["links", "roots", "marked", "waiting"] (spMH K) := by
  refine F.ok scMH (fun vs H Q E h => ?_) (fun cdv A outer s H vs Q E hr h => ?_)
  · obtain ⟨L, ra, ma, wa, names, roots, marked, waiting, nb, rfl, _⟩ := h
    rfl
  · obtain ⟨L, ra, ma, wa, names, roots, marked, waiting, nb, rfl, hL, hR, hM, hW, l1, l2, l3, l4, k⟩ := h
    have hu := hu_of hr
    refine ⟨_, pss_cons (ps_if (PW.pt (pw_or (pt_not (pt_val (pe_call (ok_isq FI B) hr (by rfl) mI kI bI .nil pass0 (pa_cons (pv 2) pa_nil)))) (pw_or1 (pt_not (pt_val (pe_call (ok_isq FI B) hr (by rfl) mI kI bI .nil pass0 (pa_cons (pv 3) pa_nil))))))) (pss_one (ps_ret pe_bl)) pss_nil)
      (pss_cons (ps_set (i := 4) scMH.nd rfl (Or.inr rfl) (pe_dc (own := [("name", 6)]) (g := gName 6) (by rfl) scMH.nd (pi_sq (pv 2)) (blkOk_by (own := [("name", 6)]) (N := nMH) (sc := defScope sMH) (by decide +kernel)) (fun _ _ _ _ _ => pg_name (i := 6) scMH.nd rfl (Or.inl rfl))
          (fun _ _ _ _ _ => pts_one (pt_cmp (pc_din hu (pv 6) (pv 0)))) (fun _ _ _ _ _ => pv 6) (fun _ _ _ _ _ => pe_bl)))
      (pss_cons (ps_if (PW.pt (pw_or (pt_cmpR op_ne (c_lenD B (pv 4)) (c_len B (pv 2)) (nomark _))
          (pw_or1 (pt_not (pt_val (c_all rfl B (pe_lc (own := [("name", 6)]) (g := gName 6) (by rfl) scMH.nd (pi_list (pe_op op_cat (c_list B (pv 1)) (c_list B (pv 3)))) (blkOk_by (own := [("name", 6)]) (N := nMH) (sc := defScope sMH) (by decide +kernel)) (fun _ _ _ _ _ => pg_name (i := 6) scMH.nd rfl (Or.inl rfl))
            (fun _ _ _ _ _ => pts_nil) (fun _ _ _ _ _ => pe_cmp (pc_din hu (pv 6) (pv 4)) rfl)))))))) (pss_one (ps_ret pe_bl)) pss_nil)
      (pss_cons (ps_lock (ps_setLc (i := 5) (own := [("name", 6)]) (g := gName 6) (by rfl) scMH.nd rfl rfl (sw_true rfl rfl rfl (by decide +kernel)) (pi_keys (pv 4)) (blkOk_by (own := [("name", 6)]) (N := nMH) (sc := defScope sMH) (by decide +kernel)) (fun _ _ _ _ _ => pg_name (i := 6) scMH.nd rfl (Or.inl rfl))
          (fun _ _ _ _ _ => pts_one (pt_cmpR (op_notInK (K := K) rfl) (pv 6) (pv 3) (by rfl))) (fun _ _ _ _ _ => pv 6)))
      (pss_one (ps_ret (c_all rfl B (pe_lc2 (own := [("name", 6), ("link", 7)]) (vs1 := [7]) (g := gName 6) (g1 := gName 7) (by rfl) scMH.nd (pi_list (pv 5)) (blkOk_by (own := [("name", 6), ("link", 7)]) (N := nMH) (sc := defScope sMH) (by decide +kernel)) (by decide)
          (fun _ _ _ _ _ => pg_name (i := 6) scMH.nd rfl (Or.inl rfl)) (fun _ _ _ _ _ => pts_nil)
          (fun _ _ _ _ _ => pi_tupK (K := K) rfl (by exact pe_dget hu (pv 0) (pv 6) (fun _ _ => rfl))) (fun _ _ _ _ _ => pg_name (i := 7) scMH.nd rfl (Or.inl rfl)) (fun _ _ _ _ _ => pts_nil) (fun _ _ _ _ _ => pe_cmp (pc_din hu (pv 7) (pv 4)) rfl)))))))), ?_⟩
    have neg : ∀ {H' : Hp}, Same H H' → ¬ Holds names nb roots marked waiting → Q (.bl false) H' := fun s h => by
      have := k _ s
      rwa [decide_eq_false h] at this
    refine ⟨_, rfl, ma, marked, rfl, hM, fun H1 s1 => ⟨_, rfl, iteF ⟨_, rfl, wa, waiting, rfl, hW.keep s1, fun H2 s2' => ⟨_, rfl, iteF ?_⟩⟩⟩⟩
    have s2 := s1.trans s2'
    refine sq_walk (K := K) (i := 2) (a := ma) (ns := marked) ?_ (hM.keep s2).sq ?_
    · rfl
    intro J wJ D nD
    refine dcF wJ (fun n => decide (n ∈ names)) nD (big (by omega)) (fun H' s => ⟨((hM.keep s2).keep s).sq, s⟩) ?_ ?_
    · intro n H' ms N hn s hD hl kt kf
      have s' := s2.trans s
      refine ⟨rfl, _, rfl, _, rfl, L, ?_⟩
      by_cases h1 : n ∈ names
      · obtain ⟨t, ht, _⟩ := (hL.keep s').get h1
        exact ⟨_, rfl, ht, _, rfl, iteT ⟨_, rfl, _, Sum.inl n, rfl, hD, hl, kt (decide_eq_true h1) _ (Same.refl _)⟩⟩
      · exact ⟨_, rfl, (hL.keep s').no h1, _, rfl, iteF (kf (decide_eq_false h1) _ (Same.refl _))⟩
    intro H3 ms s3' hD3 nd hml hm
    have s3 := s2.trans s3'
    have hm' : ∀ x, x ∈ ms ↔ x ∈ marked ∧ x ∈ names := fun x => by rw [hm, decide_eq_true_eq]
    have hlen : ms.length = marked.length ↔ marked.Nodup ∧ ∀ x ∈ marked, x ∈ names := by
      constructor
      · intro e
        have q := sub_nodup nd (fun x hx => ((hm' x).mp hx).1) (by omega)
        exact ⟨q.1, fun x hx => ((hm' x).mp (q.2 x hx)).2⟩
      · rintro ⟨h1, h2⟩
        have := sub_len h1 fun x hx => (hm' x).mpr ⟨hx, h2 x hx⟩
        omega
    refine ⟨_, rfl, D, _, rfl, hD3, _, rfl, ma, _, rfl, (hM.keep s3).sq, rfl, _, rfl, ?_⟩
    by_cases h1 : ms.length = marked.length
    · rw [decide_eq_true (by rw [IK_len, List.length_map, h1])]
      refine iteF ?_
      obtain ⟨hnd, hmn⟩ := hlen.mp h1
      have hms : ∀ x, x ∈ ms ↔ x ∈ marked := fun x => (hm' x).trans ⟨fun z => z.1, fun z => ⟨z, hmn x z⟩⟩
      refine ⟨_, rfl, ra, _, rfl, (hR.keep s3).sq, fun a1 n1 => ⟨_, rfl, wa, _, rfl, (hW.keep (s3.up n1)).sq, fun a2 n2 => ⟨a1, a2, _, _, rfl, rfl, Same.at n2 upd_same, upd_same, ?_, fun a3 n3 => ⟨a3, rfl, ⟨_, SqL.of upd_same⟩, fun D2 nD2 => ?_⟩⟩⟩⟩
      · rw [List.length_map, List.length_map]; exact Nat.le_of_lt (big (by omega))
      have e5 : roots.map V.int ++ waiting.map V.int = (roots ++ waiting).map V.int := by rw [List.map_append]
      have s4 := (((s3.up n1 (o := .lst (roots.map V.int))).up n2 (o := .lst (waiting.map V.int))).up n3 (o := .lst (roots.map V.int ++ waiting.map V.int)))
      have hD4 := Same.at n3 (o := .lst (roots.map V.int ++ waiting.map V.int)) (Same.at n2 (o := .lst (waiting.map V.int)) (Same.at n1 (o := .lst (roots.map V.int)) hD3))
      rw [e5] at nD2 s4 hD4 ⊢
      refine lcF (walkI_list (K := K) (a := a3) (ns := roots ++ waiting)) (fun _ => true) (fun n => .bl (decide (n ∈ ms))) nD2 (big (by rw [List.length_append]; omega)) (fun H' s => SqL.of (s _ _ upd_same)) ?_ ?_
      · intro n H' acc N hn s hD' hacc kt kf
        refine ⟨rfl, _, rfl, _, rfl, D, _, rfl, DGet.k (k := Sum.inl n) (s _ _ hD4), ?_⟩
        rw [valV_IK]
        by_cases h2 : n ∈ ms
        · rw [if_pos h2]
          have := kt rfl _ (Same.refl _)
          rw [decide_eq_true h2] at this
          exact ⟨acc, hD', hacc, this⟩
        · rw [if_neg h2]
          have := kt rfl _ (Same.refl _)
          rw [decide_eq_false h2] at this
          exact ⟨acc, hD', hacc, this⟩
      · intro H5 s5' hD2
        have s5 := s4.trans s5'
        have hD5 := s5' _ _ hD4
        have er : ((roots ++ waiting).filter fun _ => true).map (fun n => V.bl (decide (n ∈ ms))) = ((roots ++ waiting).map fun n => decide (n ∈ ms)).map V.bl := by
          rw [List.filter_eq_self.mpr fun _ _ => rfl, List.map_map]
          rfl
        rw [er] at hD2
        have hall : ((roots ++ waiting).map fun n => decide (n ∈ ms)).all id = true ↔ ∀ x ∈ roots ++ waiting, x ∈ ms := by
          rw [List.all_map, List.all_eq_true]
          exact ⟨fun h x hx => of_decide_eq_true (h x hx), fun h x hx => decide_eq_true (h x hx)⟩
        refine ⟨D2, _, rfl, SqL.of hD2, _, rfl, ?_⟩
        by_cases h2 : ((roots ++ waiting).map fun n => decide (n ∈ ms)).all id = true
        · rw [h2]
          refine iteF ?_
          have hrw := hall.mp h2
          refine ⟨D, _, hD5, trivial, fun od => ⟨_, rfl, D, od, rfl, .inl ⟨_, upd_same, fun D3 nD3 => ?_⟩⟩⟩
          have nD3' : D3 ≠ D := fun z => by subst z; rw [upd_same] at nD3; cases nD3
          have keepF : ∀ {H'}, Same (upd H5 D (.frz od (.dK (IK ms)))) H' → ∀ {a ns}, Sq0 H5 a ns → Sq0 H' a ns := fun s a ns h => by
            have : a ≠ D := by
              rcases h with h | h
              · exact ne_of h hD5 (by intro z; cases z)
              · exact ne_of h hD5 (by intro z; cases z)
            rcases h with h | h
            · exact .inl (s _ _ (by rw [upd_ne this]; exact h))
            · exact .inr (s _ _ (by rw [upd_ne this]; exact h))
          refine lcF (walkI_IK (d := D) (o := od) (ns := ms)) (fun n => decide (n ∉ waiting)) V.int nD3 (big (by omega)) (fun H' s => s _ _ upd_same) ?_ ?_
          · intro n H' acc N hn s hD' hacc kt kf
            refine ⟨rfl, _, rfl, _, rfl, wa, _, rfl, (keepF s (hW.keep s5)).sq, rfl, flat_ints waiting, _, rfl, ?_⟩
            rw [inV_ints]
            by_cases h3 : n ∈ waiting
            · rw [decide_eq_true h3]
              exact iteF (kf (by simp [h3]) _ (Same.refl _))
            · rw [decide_eq_false h3]
              exact iteT ⟨_, rfl, _, hD', hacc, kt (by simp [h3]) _ (Same.refl _)⟩
          · intro H6 s6' hD6
            refine ⟨s6' _ _ upd_same, ?_⟩
            have s6 : Same H5 (upd H6 D (.dK (IK ms))) := Same.frz s6' hD5
            have hD7 : (upd H6 D (.dK (IK ms))) D3 = some (.lst ((ms.filter fun n => decide (n ∉ waiting)).map V.int)) := by rw [upd_ne nD3']; exact hD6
            have hDD : (upd H6 D (.dK (IK ms))) D = some (.dK (IK ms)) := upd_same
            generalize upd H6 D (.dK (IK ms)) = H7 at s6 hD7 hDD ⊢
            have s7 := s5.trans s6
            generalize edn : (ms.filter fun n => decide (n ∉ waiting)) = dn at hD7
            have hdn : ∀ x, x ∈ dn ↔ x ∈ marked ∧ x ∉ waiting := fun x => by
              subst edn
              rw [List.mem_filter, hms, decide_eq_true_eq]
            have hdl : dn.length ≤ 80 := by
              subst edn
              exact Nat.le_trans (List.length_filter_le _ _) (by omega)
            refine ⟨_, rfl, D3, rfl, ⟨_, SqL.of hD7⟩, fun D4 nD4 => ?_⟩
            have bm : ∀ (bs : List Bool) (b : Bool), (bs ++ [b]).map V.bl = bs.map V.bl ++ [V.bl b] := fun bs b => by rw [List.map_append]; rfl
            refine goI (walkI_list (K := K) (a := D3) (ns := dn)) (fun i H => Same H7 H ∧ ∃ bs : List Bool, H D4 = some (.lst (bs.map V.bl)) ∧ bs.length ≤ 40 * i ∧ (bs.all id = true ↔ ∀ n ∈ dn.take i, ∀ y ∈ nb n, y ∈ ms)) ⟨Same.new nD4, [], upd_same, Nat.le_refl _, ⟨fun _ n hn => (by cases hn), fun _ => rfl⟩⟩ (fun i H _ q => SqL.of (q.1 _ _ hD7)) ?_ ?_
            · rintro i hi H ⟨sh, bs, hbs, hbl, hba⟩
              have hin : dn[i] ∈ names := hmn _ ((hdn _).mp (List.getElem_mem hi)).1
              refine ⟨rfl, ?_⟩
              obtain ⟨t, ht0, hts⟩ := (hL.keep s7).getS hin
              have ht := ht0 _ sh
              have ht' : ∀ n, n ∈ dn.take (i + 1) ↔ n ∈ dn.take i ∨ n = dn[i] := fun n => by
                rw [List.take_succ, List.getElem?_eq_getElem hi, Option.toList_some, List.mem_append, List.mem_singleton]
              refine ⟨_, rfl, _, rfl, L, _, rfl, ht, t, rfl, ⟨_, sh.seqT hts⟩, ?_⟩
              have h40 := l4 _ hin
              refine goI (walkI_tup (K := K) (a := t) (ns := nb dn[i])) (fun j H' => Same H7 H' ∧ ∃ bs' : List Bool, H' D4 = some (.lst (bs'.map V.bl)) ∧ bs'.length ≤ 40 * i + j ∧ (bs'.all id = true ↔ (∀ n ∈ dn.take i, ∀ y ∈ nb n, y ∈ ms) ∧ ∀ y ∈ (nb dn[i]).take j, y ∈ ms))
                ⟨sh, bs, hbs, hbl, ⟨fun z => ⟨hba.mp z, fun y hy => (by cases hy)⟩, fun z => hba.mpr z.1⟩⟩ (fun j H' _ q => q.1.seqT hts) ?_ ?_
              · rintro j hj H' ⟨sh', bs', hbs', hbl', hba'⟩
                have hD' := (s6.trans sh') _ _ hD5
                refine ⟨rfl, _, rfl, _, rfl, D, _, rfl, DGet.k (k := Sum.inl (nb dn[i])[j]) ((sh' _ _ hDD)), ?_⟩
                rw [valV_IK]
                have hlt : dn.length ≤ 80 := hdl
                have hjt : ∀ y, y ∈ (nb dn[i]).take (j + 1) ↔ y ∈ (nb dn[i]).take j ∨ y = (nb dn[i])[j] := fun y => by
                  rw [List.take_succ, List.getElem?_eq_getElem hj, Option.toList_some, List.mem_append, List.mem_singleton]
                have step : ∀ b : Bool, (b = true ↔ (nb dn[i])[j] ∈ ms) → ((bs' ++ [b]).all id = true ↔ (∀ n ∈ dn.take i, ∀ y ∈ nb n, y ∈ ms) ∧ ∀ y ∈ (nb dn[i]).take (j + 1), y ∈ ms) := fun b hb => by
                  rw [List.all_append, Bool.and_eq_true, hba', List.all_cons, List.all_nil, Bool.and_true]
                  constructor
                  · rintro ⟨⟨z1, z2⟩, z3⟩
                    exact ⟨z1, fun y hy => ((hjt y).mp hy).elim (z2 y) fun e => by rw [e]; exact hb.mp z3⟩
                  · rintro ⟨z1, z2⟩
                    exact ⟨⟨z1, fun y hy => z2 y ((hjt y).mpr (.inl hy))⟩, hb.mpr (z2 _ ((hjt _).mpr (.inr rfl)))⟩
                have hfin : ∀ b : Bool, (b = true ↔ (nb dn[i])[j] ∈ ms) → ∃ acc, H' D4 = some (.lst acc) ∧ acc.length < sizeLine ∧ (Same H7 (upd H' D4 (.lst (acc ++ [V.bl b]))) ∧ ∃ bs'' : List Bool, (upd H' D4 (.lst (acc ++ [V.bl b]))) D4 = some (.lst (bs''.map V.bl)) ∧ bs''.length ≤ 40 * i + (j + 1) ∧ (bs''.all id = true ↔ (∀ n ∈ dn.take i, ∀ y ∈ nb n, y ∈ ms) ∧ ∀ y ∈ (nb dn[i]).take (j + 1), y ∈ ms)) := fun b hb => by
                  refine ⟨_, hbs', ?_, sh'.put nD4, bs' ++ [b], ?_, ?_, step b hb⟩
                  · rw [List.length_map]
                    exact big (by omega)
                  · rw [upd_same, bm]
                  · rw [List.length_append]; simp; omega
                by_cases h3 : (nb dn[i])[j] ∈ ms
                · rw [if_pos h3]
                  exact hfin true ⟨fun _ => h3, fun _ => rfl⟩
                · rw [if_neg h3]
                  exact hfin false ⟨fun z => (by cases z), fun z => absurd z h3⟩
              · rintro H' ⟨sh', bs', hbs', hbl', hba'⟩
                rw [List.take_length] at hba'
                refine ⟨sh', bs', hbs', by omega, hba'.trans ⟨fun z n hn => ?_, fun z => ⟨fun n hn => z n ((ht' n).mpr (.inl hn)), z _ ((ht' _).mpr (.inr rfl))⟩⟩⟩
                rcases (ht' n).mp hn with hn | hn
                · exact z.1 n hn
                · subst hn; exact z.2
            · rintro H ⟨sh, bs, hbs, hbl, hba⟩
              rw [List.take_length] at hba
              refine ⟨D4, bs, rfl, SqL.of hbs, ?_⟩
              have e : bs.all id = decide (Holds names nb roots marked waiting) := by
                rw [Bool.eq_iff_iff, decide_eq_true_eq, hba]
                constructor
                · exact fun h => ⟨hnd, fun x hx => by
                    rcases List.mem_append.mp hx with hx | hx
                    · rcases List.mem_append.mp hx with hx | hx
                      · exact ⟨hmn x hx, hx⟩
                      · have := (hms x).mp (hrw x (List.mem_append_right _ hx))
                        exact ⟨hmn x this, this⟩
                    · have := (hms x).mp (hrw x (List.mem_append_left _ hx))
                      exact ⟨hmn x this, this⟩, fun x hx hw y hy => (hms y).mp (h x ((hdn x).mpr ⟨hx, hw⟩) y hy)⟩
                · exact fun h x hx y hy => (hms y).mpr (h.2.2 x ((hdn x).mp hx).1 ((hdn x).mp hx).2 y hy)
              rw [e]
              exact k _ (s7.trans sh)
        · rw [Bool.eq_false_iff.mpr h2]
          refine iteT (neg s5 fun z => h2 (hall.mpr fun x hx => (hms x).mpr ?_))
          rcases List.mem_append.mp hx with hx | hx
          · exact (z.2.1 x (List.mem_append_right _ hx)).2
          · exact (z.2.1 x (List.mem_append_left _ (List.mem_append_right _ hx))).2
    · rw [decide_eq_false (by rw [IK_len, List.length_map]; intro z; injection z with z; omega)]
      exact iteT (iteT (neg s3 fun z => h1 (hlen.mpr ⟨z.1, fun x hx => (z.2.1 x (List.mem_append_left _ (List.mem_append_left _ hx))).1⟩)))
end
end K52
namespace K52
open PySem L2
abbrev sTO : Stmt := topS 6
def spTO (K : PySem.W.Frag) : Sp := fun vs H Q _ => ∃ (L a : Addr) (names S : List Int) (nb : Int → List Int) (rk : Int → Nat), vs = [.ref L, .ref a] ∧ LinksAt K H L names nb ∧ SqL K H a (S.map V.int) ∧ S.length ≤ 60 ∧ S.Nodup ∧ (∀ x ∈ S, x ∈ names) ∧ (∀ n ∈ names, (nb n).length ≤ 40) ∧ (∀ x ∈ S, ∀ y ∈ nb x, rk y < rk x) ∧
  ∀ (r : List Int) H' p, Same H H' → H p = none → H' p = some (.tup (r.map V.int)) → r.Nodup → (∀ x, x ∈ r ↔ x ∈ S) → r.Pairwise (fun x y => x ∉ nb y) → Q (.ref p) H'
theorem top_rank (rk : Int → Nat) : ∀ ms : List Int, ms ≠ [] → ∃ x ∈ ms, ∀ y ∈ ms, rk y ≤ rk x
  | [], h => absurd rfl h
  | [x], _ => ⟨x, List.mem_singleton.mpr rfl, fun y hy => by rw [List.mem_singleton.mp hy]; exact Nat.le_refl _⟩
  | x :: z :: ms, _ => by
    obtain ⟨t, ht, hm⟩ := top_rank rk (z :: ms) (by simp)
    by_cases h : rk t ≤ rk x
    · refine ⟨x, List.mem_cons_self, fun y hy => ?_⟩
      rcases List.mem_cons.mp hy with rfl | hy
      · exact Nat.le_refl _
      · exact Nat.le_trans (hm y hy) h
    · refine ⟨t, List.mem_cons_of_mem _ ht, fun y hy => ?_⟩
      rcases List.mem_cons.mp hy with rfl | hy
      · omega
      · exact hm y hy
theorem IK_kv (ms : List Int) : (IK ms).map (fun kv => kV kv.1) = ms.map V.int := by
  unfold IK ikv
  rw [List.map_map, List.map_map]
  rfl
section
variable {P : Program} {w : World} {K : PySem.W.Frag} {mg : Str → Option Value} {base : Heap}
abbrev nTO : List Str := ["links", "names", "left", "found", "linked", "some", "name", "link"]
theorem scTO : FnScope nTO ["links", "names"] (defScope sTO) := ⟨rfl, rfl, rfl, by decide +kernel, rfl, by decide +kernel, by decide +kernel⟩
theorem ok_to {f : Addr} {fd : FuncData} (F : Fun K "taking_order" "taking_order" sTO f fd) (B : Blt mg) : FnOk P w K mg base CX0 1 f fd ["links", "names"] (spTO K) := by
  refine F.ok scTO (fun vs H Q E h => ?_) (fun cdv A outer s H vs Q E hr h => ?_)
  · obtain ⟨L, a, names, S, nb, rk, rfl, _⟩ := h
    rfl
  · obtain ⟨L, a, names, S, nb, rk, rfl, hL, hS, hSl, hSn, hSs, l4, hrk, k⟩ := h
    have hu := hu_of hr
    refine ⟨_, pss_cons (ps_setDc (i := 2) (own := [("name", 6)]) (g := gName 6) (by rfl) scTO.nd rfl rfl (sw_trueD rfl rfl rfl (by decide +kernel)) (pi_list (pv 1)) (blkOk_by (own := [("name", 6)]) (N := nTO) (sc := defScope sTO) (by decide +kernel)) (fun _ _ _ _ _ => pg_name (i := 6) scTO.nd rfl (Or.inl rfl)) (fun _ _ _ _ _ => pts_nil) (fun _ _ _ _ _ => pv 6) (fun _ _ _ _ _ => pe_bl))
      (pss_cons (ps_set (i := 3) scTO.nd rfl (.inl rfl) (pe_lst pa_nil))
      (pss_cons (ps_while PassesOwn.never (pt_cmpR op_gt (c_lenD B (pv 2)) pe_int (nomark _))
        (pss_cons (ps_set (i := 4) scTO.nd rfl (Or.inr rfl) (pe_lock (pe_dc2 (own := [("name", 6), ("link", 7)]) (vs1 := [7]) (g := gName 6) (g1 := gName 7) (by rfl) scTO.nd (pi_keys (pv 2)) (blkOk_by (own := [("name", 6), ("link", 7)]) (N := nTO) (sc := defScope sTO) (by decide +kernel)) (by decide)
            (fun _ _ _ _ _ => pg_name (i := 6) scTO.nd rfl (Or.inl rfl)) (fun _ _ _ _ _ => pts_nil) (fun _ _ _ _ _ => pi_tupK (K := K) rfl (by exact pe_dget hu (pv 0) (pv 6) (fun _ _ => rfl))) (fun _ _ _ _ _ => pg_name (i := 7) scTO.nd rfl (Or.inl rfl)) (fun _ _ _ _ _ => pts_nil) (fun _ _ _ _ _ => pv 7) (fun _ _ _ _ _ => pe_bl))))
        (pss_cons (ps_setLc (i := 5) (own := [("name", 6)]) (g := gName 6) (by rfl) scTO.nd rfl rfl (sw_true rfl rfl rfl (by decide +kernel)) (pi_list (c_sortedI B (c_listD rfl B (pv 2)))) (blkOk_by (own := [("name", 6)]) (N := nTO) (sc := defScope sTO) (by decide +kernel)) (fun _ _ _ _ _ => pg_name (i := 6) scTO.nd rfl (Or.inl rfl))
            (fun _ _ _ _ _ => pts_one (pt_cmp (pc_dnotin hu (pv 6) (pv 4)))) (fun _ _ _ _ _ => pv 6))
        (pss_cons (ps_if (pt_cmpR op_eq (c_len B (pv 5)) pe_int (nomark _)) (pss_one ps_never) pss_nil)
        (pss_cons (ps_expr (c_append (pv 3) (pe_ix ix_list (pv 5) pe_int (fun _ _ => rfl))))
        (pss_one (ps_ddel (pv 2) (pe_ix ix_list (pv 5) pe_int (fun _ _ => rfl)))))))))
      (pss_one (ps_ret (c_tuple B (pv 3)))))), ?_⟩
    refine ⟨_, rfl, a, rfl, ⟨_, hS⟩, fun D0 nD0 => ?_⟩
    refine dcF (walkI_list (K := K) (a := a) (ns := S)) (fun _ => true) nD0 (big (by omega)) (fun H' s => s.seq hS) ?_ ?_
    · intro n H' ms N hn s hD hl kt kf
      exact ⟨rfl, _, rfl, _, Sum.inl n, rfl, hD, hl, kt rfl _ (Same.refl _)⟩
    intro H1 ms0 s1 hD0 nd0 hml0 hm0
    have hm0' : ∀ x, x ∈ ms0 ↔ x ∈ S := fun x => (hm0 x).trans ⟨fun z => z.1, fun z => ⟨z, rfl⟩⟩
    -- found = []
    refine ⟨by decide, fun F0 nF0 => ?_⟩
    have nF : H F0 = none := s1.free nF0
    have hDF : D0 ≠ F0 := ne_of_none hD0 nF0
    -- the loop
    refine ⟨fun m σ H' => ∃ (fs ms : List Int) (x4 x5 : Option V), m = ms.length ∧ σ = [some (.ref L), some (.ref a), some (.ref D0), some (.ref F0), x4, x5, none, none] ∧ Same H H' ∧ H' D0 = some (.dK (IK ms)) ∧ H' F0 = some (.lst (fs.map V.int)) ∧ ms.Nodup ∧ fs.Nodup ∧ (∀ x, x ∈ S ↔ x ∈ fs ∨ x ∈ ms) ∧ (∀ x ∈ fs, x ∉ ms) ∧
      fs.Pairwise (fun x y => x ∉ nb y) ∧ (∀ x ∈ fs, ∀ y ∈ ms, x ∉ nb y),
      ⟨_, [], ms0, none, none, rfl, rfl, s1.put nF, Same.at nF0 hD0, upd_same, nd0, List.nodup_nil, fun x => ⟨fun z => .inr ((hm0' x).mpr z), fun z => z.elim (fun z => by cases z) (hm0' x).mp⟩, (fun x hx => by cases hx), .nil, fun x hx => by cases hx⟩, ?_⟩
    rintro m σ H2 ⟨fs, ms, x4, x5, rfl, rfl, s2, hD, hF, nd, ndf, hall, hdis, hpw, hpm⟩
    have hmsS : ∀ x ∈ ms, x ∈ S := fun x hx => (hall x).mpr (.inr hx)
    have hml : ms.length ≤ 60 := Nat.le_trans (sub_len nd hmsS) hSl
    have hfl : fs.length ≤ 60 := Nat.le_trans (sub_len ndf fun x hx => (hall x).mpr (.inl hx)) hSl
    refine ⟨_, rfl, D0, _, rfl, hD, _, _, rfl, rfl, _, rfl, ?_⟩
    rw [IK_len]
    by_cases h0 : 0 < ms.length
    · have e0 : decide ((0 : Int) < (ms.length : Int)) = true := decide_eq_true (by omega)
      rw [e0]
      refine iteT ?_
      refine ⟨fun σ' H' => ∃ (fs' ms' : List Int) (x4 x5 : Option V), ms'.length < ms.length ∧ σ' = [some (.ref L), some (.ref a), some (.ref D0), some (.ref F0), x4, x5, none, none] ∧ Same H H' ∧ H' D0 = some (.dK (IK ms')) ∧ H' F0 = some (.lst (fs'.map V.int)) ∧ ms'.Nodup ∧ fs'.Nodup ∧ (∀ x, x ∈ S ↔ x ∈ fs' ∨ x ∈ ms') ∧ (∀ x ∈ fs', x ∉ ms') ∧
        fs'.Pairwise (fun x y => x ∉ nb y) ∧ (∀ x ∈ fs', ∀ y ∈ ms', x ∉ nb y), fun σ' H' ⟨fs', ms', x4, x5, h1, h2⟩ => ⟨_, h1, fs', ms', x4, x5, rfl, h2⟩, ?_⟩
      -- linked
      refine ⟨D0, _, hD, trivial, fun od => ⟨_, rfl, D0, od, rfl, .inl ⟨_, upd_same, fun D nD => ?_⟩⟩⟩
      have nDD : D ≠ D0 := fun z => by subst z; rw [upd_same] at nD; cases nD
      have nDH : H2 D = none := by rwa [upd_ne nDD] at nD
      have hL2 : LinksAt K (upd H2 D0 (.frz od (.dK (IK ms)))) L names nb := by
        have hL' := hL.keep s2
        obtain ⟨ps, h1, h2, h3⟩ := hL'.d
        have hLD : L ≠ D0 := fun z => by
          subst z
          obtain ⟨ps0, g1, _⟩ := hL.d
          rw [g1] at nD0; cases nD0
        refine ⟨ps, by rw [upd_ne hLD]; exact h1, h2, fun n hn => ?_⟩
        obtain ⟨t, ht, hs⟩ := h3 n hn
        refine ⟨t, ht, ?_⟩
        rcases hs with (h | ⟨o, h⟩) | h
        · exact .inl (.inl (by rw [upd_ne (ne_of h hD (by intro z; cases z))]; exact h))
        · exact .inl (.inr ⟨o, by rw [upd_ne (ne_of h hD (by intro z; cases z))]; exact h⟩)
        · exact .inr h
      refine goI (walkI_IK (d := D0) (o := od) (ns := ms)) (fun i H' => Same (upd H2 D0 (.frz od (.dK (IK ms)))) H' ∧ ∃ lk : List Int, H' D = some (.dK (IK lk)) ∧ lk.length ≤ 40 * i ∧ ∀ y, y ∈ lk ↔ ∃ x ∈ ms.take i, y ∈ nb x) ⟨Same.new nD, [], upd_same, Nat.le_refl _, fun y => ⟨fun z => (by cases z), fun ⟨x, hx, _⟩ => (by cases hx)⟩⟩ (fun i H' _ q => q.1 _ _ upd_same) ?_ ?_
      · rintro i hi H' ⟨sh, lk, hlk, hll, hlm⟩
        have hin : ms[i] ∈ names := hSs _ (hmsS _ (List.getElem_mem hi))
        obtain ⟨t, ht0, hts⟩ := hL2.getS hin
        have ht' : ∀ n, n ∈ ms.take (i + 1) ↔ n ∈ ms.take i ∨ n = ms[i] := fun n => by
          rw [List.take_succ, List.getElem?_eq_getElem hi, Option.toList_some, List.mem_append, List.mem_singleton]
        have h40 := l4 _ hin
        refine ⟨rfl, _, rfl, _, rfl, L, _, rfl, ht0 _ sh, t, rfl, ⟨_, sh.seqT hts⟩, ?_⟩
        refine goI (walkI_tup (K := K) (a := t) (ns := nb ms[i])) (fun j H' => Same (upd H2 D0 (.frz od (.dK (IK ms)))) H' ∧ ∃ lk : List Int, H' D = some (.dK (IK lk)) ∧ lk.length ≤ 40 * i + j ∧ ∀ y, y ∈ lk ↔ (∃ x ∈ ms.take i, y ∈ nb x) ∨ y ∈ (nb ms[i]).take j)
          ⟨sh, lk, hlk, hll, fun y => ⟨fun z => .inl ((hlm y).mp z), fun z => z.elim (hlm y).mpr fun z => (by cases z)⟩⟩ (fun j H' _ q => q.1.seqT hts) ?_ ?_
        · rintro j hj H3 ⟨sh3, lk3, hlk3, hll3, hlm3⟩
          have hjt : ∀ y, y ∈ (nb ms[i]).take (j + 1) ↔ y ∈ (nb ms[i]).take j ∨ y = (nb ms[i])[j] := fun y => by
            rw [List.take_succ, List.getElem?_eq_getElem hj, Option.toList_some, List.mem_append, List.mem_singleton]
          refine ⟨rfl, _, rfl, _, Sum.inl (nb ms[i])[j], rfl, hlk3, big (by rw [IK_len]; omega), sh3.put nD, ?_⟩
          by_cases hin3 : (nb ms[i])[j] ∈ lk3
          · refine ⟨lk3, by rw [upd_same, putK_IK_old hin3], by omega, fun y => ?_⟩
            rw [hlm3, hjt]
            constructor
            · exact fun z => z.imp id .inl
            · rintro (z | z | z)
              · exact .inl z
              · exact .inr z
              · subst z; exact (hlm3 _).mp hin3
          · refine ⟨lk3 ++ [(nb ms[i])[j]], by rw [upd_same, putK_IK hin3], by rw [List.length_append]; simp; omega, fun y => ?_⟩
            rw [List.mem_append, List.mem_singleton, hlm3, hjt]
            constructor
            · rintro ((z | z) | z)
              · exact .inl z
              · exact .inr (.inl z)
              · exact .inr (.inr z)
            · rintro (z | z | z)
              · exact .inl (.inl z)
              · exact .inl (.inr z)
              · exact .inr z
        · rintro H3 ⟨sh3, lk3, hlk3, hll3, hlm3⟩
          rw [List.take_length] at hlm3
          refine ⟨sh3, lk3, hlk3, by omega, fun y => ?_⟩
          rw [hlm3]
          constructor
          · rintro (⟨x, hx, z⟩ | z)
            · exact ⟨x, (ht' x).mpr (.inl hx), z⟩
            · exact ⟨_, (ht' _).mpr (.inr rfl), z⟩
          · rintro ⟨x, hx, z⟩
            rcases (ht' x).mp hx with hx | hx
            · exact .inl ⟨x, hx, z⟩
            · subst hx; exact .inr z
      · rintro H3' ⟨sh, lk, hlk', hll, hlm⟩
        rw [List.take_length] at hlm
        refine ⟨sh _ _ upd_same, ?_⟩
        have s3' : Same H2 (upd H3' D0 (.dK (IK ms))) := Same.frz sh hD
        have hlk : (upd H3' D0 (.dK (IK ms))) D = some (.dK (IK lk)) := by rw [upd_ne nDD]; exact hlk'
        generalize upd H3' D0 (.dK (IK ms)) = H3 at s3' hlk ⊢
        have s3 := s2.trans s3'
        have hD3 := s3' _ _ hD
        have hF3 := s3' _ _ hF
        -- some
        refine ⟨_, rfl, D0, _, rfl, .inl hD3, fun p1 np1 => ?_⟩
        rw [IK_kv]
        refine ⟨p1, ms, rfl, SqL.of upd_same, fun ys p2 hperm hsort np2 => ⟨p2, rfl, ⟨_, SqL.of upd_same⟩, fun D5 nD5 => ?_⟩⟩
        have s4' := (((Same.refl H3).up np1 (o := .lst (ms.map V.int))).up np2 (o := .lst (ys.map V.int)))
        refine lcF (walkI_list (K := K) (a := p2) (ns := ys)) (fun n => decide (n ∉ lk)) V.int nD5 (big (by rw [hperm.length_eq]; omega)) (fun H' s => SqL.of (s _ _ upd_same)) ?_ ?_
        · intro n H' acc N hn s hD' hacc kt kf
          refine ⟨rfl, _, rfl, _, rfl, D, _, rfl, DGet.k (k := Sum.inl n) (s _ _ (s4' _ _ hlk)), _, rfl, ?_⟩
          rw [valV_IK]
          by_cases h2 : n ∈ lk
          · rw [if_pos h2]
            exact iteF (kf (by simp [h2]) _ (Same.refl _))
          · rw [if_neg h2]
            exact iteT ⟨_, rfl, _, hD', hacc, kt (by simp [h2]) _ (Same.refl _)⟩
        · intro H5 s5' hD5
          have s5 := s4'.trans s5'
          have sH5 := s3.trans s5
          have hDz := s5 _ _ hD3
          have hFz := s5 _ _ hF3
          generalize eso : ys.filter (fun n => decide (n ∉ lk)) = so at hD5
          have hso : ∀ x, x ∈ so ↔ x ∈ ms ∧ x ∉ lk := fun x => by
            subst eso
            rw [List.mem_filter, hperm.mem_iff, decide_eq_true_eq]
          obtain ⟨tp, htp, htm⟩ := top_rank rk ms (by intro z; subst z; simp at h0)
          have htl : tp ∉ lk := fun z => by
            obtain ⟨y, hy, hyt⟩ := (hlm tp).mp z
            have := hrk y (hmsS y hy) tp hyt
            have := htm y hy
            omega
          have hne : so ≠ [] := fun z => by
            have := (hso tp).mpr ⟨htp, htl⟩
            rw [z] at this; cases this
          obtain ⟨z, so', rfl⟩ : ∃ z so', so = z :: so' := by
            cases so with
            | nil => exact absurd rfl hne
            | cons z so' => exact ⟨z, so', rfl⟩
          obtain ⟨hzm, hzl⟩ := (hso z).mp List.mem_cons_self
          have hznb : ∀ y ∈ ms, z ∉ nb y := fun y hy hz => hzl ((hlm z).mpr ⟨y, hy, hz⟩)
          refine ⟨_, rfl, D5, _, rfl, .inl (SqL.of hD5), rfl, _, rfl, ?_⟩
          have e1 : decide (V.int (((z :: so').map V.int).length : Nat) = V.int 0) = false := decide_eq_false fun h => by injection h with h; simp at h; omega
          rw [e1]
          refine iteF ?_
          -- found.append(some[0])
          refine ⟨_, rfl, .inl ⟨rfl, _, SqL.of hFz⟩, _, rfl, D5, _, _, _, rfl, rfl, SqL.of hD5, atI_nat (j := 0) rfl, F0, _, _, rfl, rfl, hFz, big (by rw [List.length_map]; omega), ?_⟩
          have hD5F : D5 ≠ F0 := (ne_of_none (s4' _ _ hF3) nD5).symm
          -- del left[some[0]]
          refine ⟨_, rfl, _, rfl, D5, _, _, _, rfl, rfl, SqL.of (by rw [upd_ne hD5F]; exact hD5), atI_nat (j := 0) rfl, D0, _, Sum.inl z, rfl, (by rw [upd_ne hDF]; exact hDz), rfl, (by rw [valV_IK, if_pos hzm]; rfl), ?_⟩
          rw [dropK_IK]
          have hmf : ∀ x, x ∈ ms.filter (fun m => decide (m ≠ z)) ↔ x ∈ ms ∧ x ≠ z := fun x => by rw [List.mem_filter, decide_eq_true_eq]
          refine ⟨fs ++ [z], ms.filter (fun m => decide (m ≠ z)), _, _, ?_, rfl, ?_, upd_same, ?_, nd.filter _, ?_, fun x => ?_, fun x hx => ?_, ?_, fun x hx y hy => ?_⟩
          · have h1 := sub_len (m := z :: ms.filter (fun m => decide (m ≠ z))) (l := ms) (List.nodup_cons.mpr ⟨fun h => ((hmf z).mp h).2 rfl, nd.filter _⟩) fun x hx => by
              rcases List.mem_cons.mp hx with rfl | hx
              · exact hzm
              · exact ((hmf x).mp hx).1
            simp only [List.length_cons] at h1
            omega
          · exact (sH5.put nF).put nD0
          · rw [upd_ne hDF.symm, upd_same, List.map_append]; rfl
          · rw [List.nodup_append]
            exact ⟨ndf, by simp, fun a ha b hb => by rw [List.mem_singleton.mp hb]; intro e; subst e; exact hdis _ ha hzm⟩
          · rw [hall, hmf, List.mem_append, List.mem_singleton]
            constructor
            · rintro (h | h)
              · exact .inl (.inl h)
              · by_cases e : x = z
                · exact .inl (.inr e)
                · exact .inr ⟨h, e⟩
            · rintro ((h | h) | h)
              · exact .inl h
              · subst h; exact .inr hzm
              · exact .inr h.1
          · rw [hmf]
            rcases List.mem_append.mp hx with h | h
            · exact fun e => hdis x h e.1
            · rw [List.mem_singleton.mp h]; exact fun e => e.2 rfl
          · rw [List.pairwise_append]
            exact ⟨hpw, List.pairwise_singleton _ _, fun x hx y hy => by rw [List.mem_singleton.mp hy]; exact hpm x hx z hzm⟩
          · have hy' := ((hmf y).mp hy).1
            rcases List.mem_append.mp hx with h | h
            · exact hpm x h y hy'
            · rw [List.mem_singleton.mp h]; exact hznb y hy'
    · have e0 : decide ((0 : Int) < (ms.length : Int)) = false := decide_eq_false (by omega)
      rw [e0]
      refine iteF ?_
      have hms0 : ms = [] := List.length_eq_zero_iff.mp (by omega)
      subst hms0
      refine ⟨_, rfl, F0, _, rfl, .inl ⟨SqL.of hF, fun l nl => ?_⟩⟩
      exact k fs _ l (s2.up nl) (s2.free nl) upd_same ndf (fun x => ⟨fun z => (hall x).mpr (.inl z), fun z => ((hall x).mp z).elim id fun z => (by cases z)⟩) hpw
end
end K52
namespace K52
open PySem L2
/-- a def of the module, by its name: where it stands, how its arguments come -/
structure Df (K : PySem.W.Frag) (mg : Str → Option Value) (x : Str) (st : Stmt) (ps : List Str) where
  f : Addr
  fd : FuncData
  F : Fun K x x st f fd
  m : mg x = some (.ref f)
  k : PySem.W.keepIn K (.ref f) = true
  b : Binds K fd ps []
abbrev sLinks : Stmt := topS 13
/-- what a dict of links is: names unlike, each leads to a few that lie lower -/
structure Lk (names : List Int) (nb : Int → List Int) (rk : Int → Nat) : Prop where
  nd : names.Nodup
  few : ∀ n ∈ names, (nb n).length ≤ 3
  nds : ∀ n ∈ names, (nb n).Nodup
  cl : ∀ n ∈ names, ∀ y ∈ nb n, y ∈ names
  dn : ∀ n ∈ names, ∀ y ∈ nb n, rk y < rk n
theorem LinksAt.fr {K : PySem.W.Frag} {H H' : Hp} {L b : Addr} {names : List Int} {nb : Int → List Int} (h : LinksAt K H L names nb) (f : Fr b H H') (bb : BoxAt H b) : LinksAt K H' L names nb := by
  obtain ⟨ps, h1, h2, h3⟩ := h.d
  obtain ⟨g, r, e⟩ := bb
  refine ⟨ps, f _ _ h1 (ne_of h1 e (by intro z; cases z)), h2, fun n hn => (h3 n hn).imp fun t q => ⟨q.1, ?_⟩⟩
  rcases q.2 with (h | ⟨o, h⟩) | h
  · exact .inl (.inl (f _ _ h (ne_of h e (by intro z; cases z))))
  · exact .inl (.inr ⟨o, f _ _ h (ne_of h e (by intro z; cases z))⟩)
  · exact .inr h
theorem LinksAt.nb' {K : PySem.W.Frag} {H : Hp} {L : Addr} {names : List Int} {nb nb' : Int → List Int} (h : LinksAt K H L names nb) (e : ∀ n ∈ names, nb' n = nb n) : LinksAt K H L names nb' := by
  obtain ⟨ps, h1, h2, h3⟩ := h.d
  exact ⟨ps, h1, h2, fun n hn => by rw [e n hn]; exact h3 n hn⟩
theorem lookup_append {ps : List (Int × V)} {n m : Int} {v : V} : (ps ++ [(m, v)]).lookup n = match ps.lookup n with | some x => some x | none => if n = m then some v else none := by
  induction ps with
  | nil =>
    by_cases e : n = m
    · subst e; simp [List.lookup]
    · have : (n == m) = false := by simpa using e
      simp [List.lookup, this, e]
  | cons p ps ih =>
    obtain ⟨a, c⟩ := p
    rw [List.cons_append]
    by_cases e : n = a
    · subst e; simp [List.lookup]
    · have : (n == a) = false := by simpa using e
      simp only [List.lookup, this]
      exact ih
/-- a new name put into the dict -/
theorem LinksAt.put {K : PySem.W.Frag} {H : Hp} {L t : Addr} {names ls : List Int} {nb : Int → List Int} {n : Int} (h : LinksAt K H L names nb) (hn : n ∉ names) (ht : SqT K H t (ls.map V.int)) :
    ∃ kvs, H L = some (.dK kvs) ∧ kvs.length = names.length ∧ LinksAt K (upd H L (.dK (putK kvs (Sum.inl n) (.ref t)))) L (names ++ [n]) (fun m => if m = n then ls else nb m) := by
  obtain ⟨ps, h1, h2, h3⟩ := h.d
  refine ⟨ikv ps, h1, by rw [← h2, List.length_map, List.length_map], ?_⟩
  have keep : ∀ {t ls}, SqT K H t ls → SqT K (upd H L (.dK (putK (ikv ps) (Sum.inl n) (.ref t)))) t ls → True := fun _ _ => trivial
  have ke : ∀ (o : HO) (s : Addr) (xs : List V), SqT K H s xs → SqT K (upd H L o) s xs := fun o s xs q => by
    rcases q with (q | ⟨u, q⟩) | q
    · exact .inl (.inl (by rw [upd_ne (ne_of q h1 (by intro z; cases z))]; exact q))
    · exact .inl (.inr ⟨u, by rw [upd_ne (ne_of q h1 (by intro z; cases z))]; exact q⟩)
    · exact .inr q
  have hl : ps.lookup n = none := lookup_none (by rw [h2]; exact hn)
  refine ⟨ps ++ [(n, .ref t)], by rw [upd_same, putK_ikv hl], by rw [List.map_append, h2]; rfl, fun m hm => ?_⟩
  rw [lookup_append]
  by_cases e : m = n
  · subst e
    rw [hl]
    exact ⟨t, by simp, by rw [if_pos rfl]; exact ke _ _ _ ht⟩
  · have hm' : m ∈ names := (List.mem_append.mp hm).resolve_right fun z => e (List.mem_singleton.mp z)
    obtain ⟨s, hs, hq⟩ := h3 m hm'
    rw [hs]
    exact ⟨s, rfl, by rw [if_neg e]; exact ke _ _ _ hq⟩
theorem Lk.put {names ls : List Int} {nb : Int → List Int} {rk : Int → Nat} {n : Int} (h : Lk names nb rk) (hn : n ∉ names) (hl : ls.length ≤ 3) (hd : ls.Nodup) (hs : ∀ x ∈ ls, x ∈ names) :
    ∃ rk', Lk (names ++ [n]) (fun m => if m = n then ls else nb m) rk' := by
  obtain ⟨top, ht⟩ : ∃ top : Nat, ∀ x ∈ names, rk x < top := by
    clear h hs hn
    induction names with
    | nil => exact ⟨0, fun x hx => by cases hx⟩
    | cons y ys ih =>
      obtain ⟨t, ht⟩ := ih
      refine ⟨max t (rk y + 1), fun x hx => ?_⟩
      rcases List.mem_cons.mp hx with rfl | hx
      · omega
      · have := ht x hx; omega
  have mem : ∀ x, x ∈ names ++ [n] ↔ x ∈ names ∨ x = n := fun x => by rw [List.mem_append, List.mem_singleton]
  refine ⟨fun m => if m = n then top else rk m, ?_, ?_, ?_, ?_, ?_⟩
  · rw [List.nodup_append]
    exact ⟨h.nd, by simp, fun a ha b hb => by rw [List.mem_singleton.mp hb]; intro e; subst e; exact hn ha⟩
  all_goals intro m hm
  all_goals by_cases e : m = n
  · rw [if_pos e]; exact hl
  · rw [if_neg e]; exact h.few m (((mem m).mp hm).resolve_right e)
  · rw [if_pos e]; exact hd
  · rw [if_neg e]; exact h.nds m (((mem m).mp hm).resolve_right e)
  · rw [if_pos e]; exact fun y hy => (mem y).mpr (.inl (hs y hy))
  · rw [if_neg e]; exact fun y hy => (mem y).mpr (.inl (h.cl m (((mem m).mp hm).resolve_right e) y hy))
  · rw [if_pos e]
    intro y hy
    have hy' := hs y hy
    show (if y = n then top else rk y) < (if m = n then top else rk m)
    rw [if_pos e, if_neg (fun z => by subst z; exact hn hy')]
    exact ht y hy'
  · rw [if_neg e]
    intro y hy
    have hm' := ((mem m).mp hm).resolve_right e
    have hy' := h.cl m hm' y hy
    show (if y = n then top else rk y) < (if m = n then top else rk m)
    rw [if_neg e, if_neg (fun z => by subst z; exact hn hy')]
    exact h.dn m hm' y hy
theorem Fr.put {b p : Addr} {H H' : Hp} {o : HO} (f : Fr b H H') (n : H p = none) : Fr b H (upd H' p o) := fun c u e ne => by
  rw [upd_ne (ne_of_none e n)]
  exact f c u e ne
theorem BoxAt.up {b p : Addr} {H : Hp} {o : HO} (h : BoxAt H b) (n : p ≠ b) : BoxAt (upd H p o) b := by
  obtain ⟨g, r, e⟩ := h
  exact ⟨g, r, by rw [upd_ne n.symm]; exact e⟩
theorem BoxAt.ne {b p : Addr} {H : Hp} (h : BoxAt H b) (n : H p = none) : p ≠ b := by
  obtain ⟨g, r, e⟩ := h
  exact (ne_of_none e n).symm
theorem Fr.free {b p : Addr} {H H' : Hp} (f : Fr b H H') (n : H' p = none) (pb : p ≠ b) : H p = none := by
  cases q : H p with
  | none => rfl
  | some o => rw [f p o q pb] at n; cases n
def spLinks (K : PySem.W.Frag) : Sp := fun vs H Q _ => ∃ (b : Addr) (most : Int), vs = [.ref b, .int most] ∧ BoxAt H b ∧ 0 < most ∧ most ≤ 10 ∧
  ∀ (L : Addr) (H' : Hp) (names : List Int) (nb : Int → List Int) (rk : Int → Nat), Fr b H H' → BoxAt H' b → H L = none → LinksAt K H' L names nb → Lk names nb rk → names.length ≤ 10 → (∀ n ∈ names, 0 ≤ n ∧ n < 1000) → Q (.ref L) H'
section
variable {P : Program} {w : World} {K : PySem.W.Frag} {mg : Str → Option Value} {base : Heap}
abbrev nLi : List Str := ["box", "most", "links", "names", "turn", "name", "link"]
theorem scLi : FnScope nLi ["box", "most"] (defScope sLinks) := ⟨rfl, rfl, rfl, by decide +kernel, rfl, by decide +kernel, by decide +kernel⟩
theorem ok_links {f : Addr} {fd : FuncData} (F : Fun K "_law_links" "_law_links" sLinks f fd) (B : Blt mg) (T : Df K mg "_law_take" sTake ["box", "many"]) (Pk : Df K mg "_law_pick" sPick ["box", "some"]) : FnOk P w K mg base CX0 3 f fd ["box", "most"] (spLinks K) := by
  have GT : FnOk P w K mg base CX0 1 T.f T.fd ["box", "many"] spTake := ok_take T.F B
  have GP : FnOk P w K mg base CX0 2 Pk.f Pk.fd ["box", "some"] (spPick K) := ok_pick Pk.F B T.m T.k T.F T.b
  refine F.ok scLi (fun vs H Q E h => ?_) (fun cdv A outer s H vs Q E hr h => ?_)
  · obtain ⟨b, most, rfl, _⟩ := h
    rfl
  · obtain ⟨b, most, rfl, hb, m0, m1, k⟩ := h
    have hu := hu_of hr
    have hr1 : Room 1 _ := hr.mono (by decide)
    refine ⟨_, pss_cons (ps_asg (pe_tup (pa_cons pe_dnewK (pa_cons (pe_lst pa_nil) pa_nil))) (pg_tup (by rfl) (pgs_cons (pg_name (i := 2) scLi.nd rfl (.inl rfl)) (pgs_cons (pg_name (i := 3) scLi.nd rfl (.inr rfl)) pgs_nil))))
      (pss_cons (ps_for PassesOwn.never rfl (i_range B (pe_op op_add pe_int (pe_call GT hr1 (by rfl) T.m T.k T.b .nil pass0 (pa_cons (pv 0) (pa_cons (pv 1) pa_nil))))) (pg_name (i := 4) scLi.nd rfl (.inl rfl))
        (pss_cons (ps_set (i := 5) scLi.nd rfl (.inl rfl) (pe_call GT hr1 (by rfl) T.m T.k T.b .nil pass0 (pa_cons (pv 0) (pa_cons pe_int pa_nil))))
        (pss_one (ps_if (pt_cmp (pc_dnotin hu (pv 5) (pv 2)))
          (pss_cons (ps_dput hu (pv 2) (pv 5) (pe_ifExp (pt_cmpR (op_neD hr.units) (pv 3) (pe_lst pa_nil) (nomark _))
              (c_tuple B (c_sortedSet rfl B (c_set rfl B (pe_lc (own := [("link", 6)]) (g := gName 6) (by rfl) scLi.nd (i_range B (pe_call GT hr1 (by rfl) T.m T.k T.b .nil pass0 (pa_cons (pv 0) (pa_cons pe_int pa_nil)))) (blkOk_by (own := [("link", 6)]) (N := nLi) (sc := defScope sLinks) (by decide +kernel)) (fun _ _ _ _ _ => pg_name (i := 6) scLi.nd rfl (Or.inl rfl))
                (fun _ _ _ _ _ => pts_nil) (fun _ _ _ _ _ => pe_call GP hr (by rfl) Pk.m Pk.k Pk.b .nil pass0 (pa_cons (pv 0) (pa_cons (pv 3) pa_nil)))))))
              (pe_tup pa_nil)) rfl)
          (pss_one (ps_expr (c_append (pv 3) (pv 5))))) pss_nil))))
      (pss_one (ps_ret (pv 2)))), ?_⟩
    -- links, names = {}, []
    intro L nL
    refine ⟨by decide, fun N nN0 => ⟨sz2, fun tp ntp => ⟨tp, _, rfl, SqT.of upd_same, rfl, _, _, rfl, _, _, rfl, rfl, ?_⟩⟩⟩
    have hLN : L ≠ N := fun z => by subst z; rw [upd_same] at nN0; cases nN0
    have nN : H N = none := by rwa [upd_ne hLN.symm] at nN0
    have hLb : L ≠ b := hb.ne nL
    have hNb : N ≠ b := hb.ne nN
    have htL : tp ≠ L := fun z => by subst z; rw [upd_ne hLN, upd_same] at ntp; cases ntp
    have htN : tp ≠ N := fun z => by subst z; rw [upd_same] at ntp; cases ntp
    have ntH : H tp = none := by rwa [upd_ne htN, upd_ne htL] at ntp
    have htb : tp ≠ b := hb.ne ntH
    have sH1 : Same H (upd (upd (upd H L (.dK [])) N (.lst [])) tp (.tup [.ref L, .ref N])) := ((Same.new nL).put nN).put ntH
    have b1 : BoxAt (upd (upd (upd H L (.dK [])) N (.lst [])) tp (.tup [.ref L, .ref N])) b := ((hb.up hLb).up hNb).up htb
    have hL1 : (upd (upd (upd H L (.dK [])) N (.lst [])) tp (.tup [.ref L, .ref N])) L = some (.dK []) := by rw [upd_ne htL.symm, upd_ne hLN, upd_same]
    have hN1 : (upd (upd (upd H L (.dK [])) N (.lst [])) tp (.tup [.ref L, .ref N])) N = some (.lst []) := by rw [upd_ne htN.symm, upd_same]
    generalize upd (upd (upd H L (.dK [])) N (.lst [])) tp (.tup [.ref L, .ref N]) = H1 at sH1 b1 hL1 hN1 ⊢
    refine ⟨_, rfl, _, rfl, b, most, rfl, b1, m0, by omega, fun d H2 d0 d1 fr2 hb2 => ⟨_, _, rfl, rfl, _, rfl, by omega, by omega, ?_⟩⟩
    refine for_range (lo := 0) (n := (1 + d).toNat) (fun i σ H' => ∃ (names : List Int) (nb : Int → List Int) (rk : Int → Nat) (x4 x5 : Option V), σ = [some (.ref b), some (.int most), some (.ref L), some (.ref N), x4, x5, none] ∧ Fr b H H' ∧ BoxAt H' b ∧ LinksAt K H' L names nb ∧ Lk names nb rk ∧ H' N = some (.lst (names.map V.int)) ∧ names.length ≤ i ∧ ∀ n ∈ names, 0 ≤ n ∧ n < 1000)
      ⟨[], fun _ => [], fun _ => 0, none, none, rfl, (Fr.of sH1).trans fr2, hb2, ⟨[], fr2 _ _ hL1 hLb, rfl, fun n hn => by cases hn⟩, ⟨List.nodup_nil, (fun n hn => by cases hn), (fun n hn => by cases hn), (fun n hn => by cases hn), fun n hn => by cases hn⟩, fr2 _ _ hN1 hNb, Nat.le_refl _, fun n hn => by cases hn⟩ ?_ ?_
    · rintro i σ H2' hi ⟨names, nb, rk, x4, x5, rfl, f2, hb2', hL2, hLk, hN2, hnl, hrg⟩
      refine ⟨_, rfl, b, 1000, rfl, hb2', by decide, by decide, fun n H3 n0 n1 fr3 hb3 => ?_⟩
      have f3 := f2.trans fr3
      have hL3 := hL2.fr fr3 hb2'
      have hN3 := fr3 _ _ hN2 hNb
      have hnl10 : names.length < 10 := by omega
      refine ⟨_, rfl, _, rfl, L, ?_⟩
      by_cases hnn : n ∈ names
      · obtain ⟨t, ht, _⟩ := hL3.get hnn
        exact ⟨_, rfl, ht, _, rfl, iteF ⟨names, nb, rk, _, _, rfl, f3, hb3, hL3, hLk, hN3, by omega, hrg⟩⟩
      · refine ⟨_, rfl, hL3.no hnn, _, rfl, iteT ?_⟩
        refine ⟨_, rfl, by decide, fun l nl => ⟨_, _, .lst (SqL.of (Same.at nl hN3)) (dp_ints names), .lst (SqL.of upd_same) .nil, shaped_list _, shaped_list [], _, rfl, ?_⟩⟩
        rw [show PyData.eqv (.list (dInts names)) (.list []) = decide (names = []) from eqv_list names []]
        by_cases hne : names = []
        · rw [decide_eq_true hne]
          refine iteF ?_
          refine ⟨by decide, fun t nt => ?_⟩
          have LAt : LinksAt K (upd (upd H3 l (.lst [])) t (.tup [])) L names nb := (hL3.keep (Same.new nl)).keep (Same.new nt)
          have ht : SqT K (upd (upd H3 l (.lst [])) t (.tup [])) t (([] : List Int).map V.int) := SqT.of upd_same
          obtain ⟨kvs, hk1, hk2, hk3⟩ := LAt.put hnn ht
          have hNT : (upd (upd H3 l (.lst [])) t (.tup [])) N = some (.lst (names.map V.int)) := Same.at nt (Same.at nl hN3)
          refine ⟨_, rfl, _, rfl, L, _, rfl, DPut.k (k := Sum.inl n) hk1 (big (by omega)), ?_⟩
          refine ⟨_, rfl, .inl ⟨rfl, _, SqL.of (by rw [upd_ne hLN.symm]; exact hNT)⟩, _, rfl, N, _, _, rfl, rfl, (by rw [upd_ne hLN.symm]; exact hNT), big (by rw [List.length_map]; omega), ?_⟩
          obtain ⟨rk', hLk'⟩ := hLk.put hnn (by decide) List.nodup_nil (fun x hx => (by cases hx))
          have bT : BoxAt (upd (upd H3 l (.lst [])) t (.tup [])) b := (hb3.up (hb3.ne nl)).up ((hb3.up (hb3.ne nl)).ne nt)
          refine ⟨names ++ [n], _, rk', _, _, rfl, (((f3.trans (Fr.of (Same.new nl))).trans (Fr.of (Same.new nt))).put nL).put nN, (bT.up hLb).up hNb, ?_, hLk', by rw [upd_same, List.map_append]; rfl, by rw [List.length_append]; simp; omega, fun m hm => ?_⟩
          · obtain ⟨ps, h1, h2, h3⟩ := hk3.d
            refine ⟨ps, by rw [upd_ne hLN]; exact h1, h2, fun m hm => (h3 m hm).imp fun t' qq => ⟨qq.1, ?_⟩⟩
            have hN2 : (upd (upd (upd H3 l (.lst [])) t (.tup [])) L (.dK (putK kvs (Sum.inl n) (.ref t)))) N = some (.lst (names.map V.int)) := by rw [upd_ne hLN.symm]; exact hNT
            rcases qq.2 with (h | ⟨o, h⟩) | h
            · exact .inl (.inl (by rw [upd_ne (ne_of h hN2 (by intro z; cases z))]; exact h))
            · exact .inl (.inr ⟨o, by rw [upd_ne (ne_of h hN2 (by intro z; cases z))]; exact h⟩)
            · exact .inr h
          · rcases List.mem_append.mp hm with hm | hm
            · exact hrg m hm
            · rw [List.mem_singleton.mp hm]; exact ⟨n0, n1⟩
        · rw [decide_eq_false hne]
          refine iteT ?_
          have hbl := hb3.up (o := .lst []) (hb3.ne nl)
          have hNl := Same.at nl (o := .lst []) hN3
          have hLl := hL3.keep (Same.new nl (o := .lst []))
          refine ⟨_, rfl, b, 4, rfl, hbl, by decide, by decide, fun d4 H4 e0 e1 fr4 hb4 => ⟨_, rfl, by omega, by omega, fun D nD => ?_⟩⟩
          have hDb := hb4.ne nD
          have hN4 := fr4 _ _ hNl hNb
          have hL4 := hLl.fr fr4 hbl
          have hDN : D ≠ N := (ne_of_none hN4 nD).symm
          have f4 := (f3.trans (Fr.of (Same.new nl (o := .lst [])))).trans fr4
          refine lc_range (lo := 0) (n := d4.toNat) (fun j H' => Fr b H4 H' ∧ BoxAt H' b ∧ ∃ acc : List Int, H' D = some (.lst (acc.map V.int)) ∧ acc.length = j ∧ ∀ x ∈ acc, x ∈ names) ⟨Fr.of (Same.new nD), hb4.up hDb, [], upd_same, rfl, fun x hx => by cases hx⟩ ?_ ?_
          · rintro j H5 hj ⟨f5, hb5, acc, hD5, hal, hac⟩
            refine ⟨rfl, _, rfl, _, rfl, b, N, _, rfl, hb5, SqL.of (f5 _ _ hN4 hNb), hNb, (fun z => hne (List.map_eq_nil_iff.mp z)), by rw [List.length_map]; omega, fun v H6 hv fr6 hb6 => ?_⟩
            obtain ⟨x, hx, rfl⟩ := List.mem_map.mp hv
            have hD6 := fr6 _ _ hD5 hDb
            refine ⟨_, hD6, big (by rw [List.length_map]; omega), (f5.trans fr6).put nD, hb6.up hDb, acc ++ [x], by rw [upd_same, List.map_append]; rfl, by rw [List.length_append, hal]; rfl, fun y hy => ?_⟩
            rcases List.mem_append.mp hy with hy | hy
            · exact hac y hy
            · rw [List.mem_singleton.mp hy]; exact hx
          · rintro H7 ⟨f7', hb7, acc, hD7, hal, hac⟩
            have f7 := f4.trans f7'
            have hN7 := f7' _ _ hN4 hNb
            have hL7 := hL4.fr f7' hb4
            refine ⟨D, acc, rfl, .inl (SqL.of hD7), by omega, fun q c m nd hm hc hcl nq => ⟨q, _, c, rfl, upd_same, by omega, fun r1 p1 hinc hmem hlen np1 => ⟨p1, _, rfl, .inl ⟨SqL.of upd_same, fun t nt => ?_⟩⟩⟩⟩
            have nd1 : r1.Nodup := hinc.imp fun h => by omega
            have hm1 : ∀ x, x ∈ r1 ↔ x ∈ acc := fun x => (hmem x).trans ⟨of_decide_eq_true, decide_eq_true⟩
            have LAt : LinksAt K (upd (upd (upd H7 q (SetO w q (fun j => decide (j ∈ acc)) c)) p1 (.lst (r1.map V.int))) t (.tup (r1.map V.int))) L names nb := ((hL7.keep (Same.new nq)).keep (Same.new np1)).keep (Same.new nt)
            have ht : SqT K (upd (upd (upd H7 q (SetO w q (fun j => decide (j ∈ acc)) c)) p1 (.lst (r1.map V.int))) t (.tup (r1.map V.int))) t (r1.map V.int) := SqT.of upd_same
            obtain ⟨kvs, hk1, hk2, hk3⟩ := LAt.put hnn ht
            have hNT : (upd (upd (upd H7 q (SetO w q (fun j => decide (j ∈ acc)) c)) p1 (.lst (r1.map V.int))) t (.tup (r1.map V.int))) N = some (.lst (names.map V.int)) := Same.at nt (Same.at np1 (Same.at nq hN7))
            refine ⟨_, rfl, _, rfl, L, _, rfl, DPut.k (k := Sum.inl n) hk1 (big (by omega)), ?_⟩
            refine ⟨_, rfl, .inl ⟨rfl, _, SqL.of (by rw [upd_ne hLN.symm]; exact hNT)⟩, _, rfl, N, _, _, rfl, rfl, (by rw [upd_ne hLN.symm]; exact hNT), big (by rw [List.length_map]; omega), ?_⟩
            obtain ⟨rk', hLk'⟩ := hLk.put hnn (by omega) nd1 (fun x hx => hac x (hm1 x |>.mp hx))
            have bT : BoxAt (upd (upd (upd H7 q (SetO w q (fun j => decide (j ∈ acc)) c)) p1 (.lst (r1.map V.int))) t (.tup (r1.map V.int))) b := ((hb7.up (hb7.ne nq)).up ((hb7.up (hb7.ne nq)).ne np1)).up (((hb7.up (hb7.ne nq)).up ((hb7.up (hb7.ne nq)).ne np1)).ne nt)
            refine ⟨names ++ [n], _, rk', _, _, rfl, ((((f7.trans (Fr.of (Same.new nq))).trans (Fr.of (Same.new np1))).trans (Fr.of (Same.new nt))).put nL).put nN, (bT.up hLb).up hNb, ?_, hLk', by rw [upd_same, List.map_append]; rfl, by rw [List.length_append]; simp; omega, fun m hm => ?_⟩
            · obtain ⟨ps, h1, h2, h3⟩ := hk3.d
              refine ⟨ps, by rw [upd_ne hLN]; exact h1, h2, fun m hm => (h3 m hm).imp fun t' qq => ⟨qq.1, ?_⟩⟩
              have hN2 : (upd (upd (upd (upd H7 q (SetO w q (fun j => decide (j ∈ acc)) c)) p1 (.lst (r1.map V.int))) t (.tup (r1.map V.int))) L (.dK (putK kvs (Sum.inl n) (.ref t)))) N = some (.lst (names.map V.int)) := by rw [upd_ne hLN.symm]; exact hNT
              rcases qq.2 with (h | ⟨o, h⟩) | h
              · exact .inl (.inl (by rw [upd_ne (ne_of h hN2 (by intro z; cases z))]; exact h))
              · exact .inl (.inr ⟨o, by rw [upd_ne (ne_of h hN2 (by intro z; cases z))]; exact h⟩)
              · exact .inr h
            · rcases List.mem_append.mp hm with hm | hm
              · exact hrg m hm
              · rw [List.mem_singleton.mp hm]; exact ⟨n0, n1⟩
    · rintro σ H2' ⟨names, nb, rk, x4, x5, rfl, f2, hb2', hL2, hLk, hN2, hnl, hrg⟩
      exact ⟨_, rfl, k L H2' names nb rk f2 hb2' nL hL2 hLk (by omega) hrg⟩
end
end K52
namespace K52
open PySem L2
abbrev sJ : Stmt := topS 16
def spJ (C : Addr) (K : PySem.W.Frag) : Sp := fun vs H Q _ => ∃ (b L ra p dm dw : Addr) (names roots ms ws : List Int) (nb : Int → List Int), vs = [.ref b, .ref L, .ref ra, .ref p] ∧ LinksAt K H L names nb ∧ H ra = some (.lst (roots.map V.int)) ∧ MarksAt C H p dm dw ms ws ∧
  roots.length ≤ 200 ∧ ms.length ≤ 60 ∧ ws.length ≤ 60 ∧ names.length ≤ 60 ∧ (∀ n ∈ names, (nb n).length ≤ 40) ∧ ∀ H', Same H H' → Q (.bl (decide (Holds names nb roots ms ws))) H'
/-- a row: two lists of ints in a tuple -/
def RowOk (H : Hp) (v : V) : Prop := ∃ (t x y : Addr) (one other : List Int), v = .ref t ∧ H t = some (.tup [.ref x, .ref y]) ∧ H x = some (.lst (one.map V.int)) ∧ H y = some (.lst (other.map V.int)) ∧ one.length ≤ 80 ∧ other.length ≤ 300
theorem RowOk.keep {H H' : Hp} {v : V} (r : RowOk H v) (s : Same H H') : RowOk H' v := by
  obtain ⟨t, x, y, one, other, h1, h2, h3, h4, h5⟩ := r
  exact ⟨t, x, y, one, other, h1, s _ _ h2, s _ _ h3, s _ _ h4, h5⟩
theorem cutV_ints (ns : List Int) (lo hi : Option Int) : ∃ ns' : List Int, cutV (ns.map V.int) lo hi = ns'.map V.int ∧ ns'.length ≤ ns.length := by
  refine ⟨(ns.drop (HT.sIx (ns.map V.int).length 0 lo)).take (HT.sIx (ns.map V.int).length (ns.map V.int).length hi - HT.sIx (ns.map V.int).length 0 lo), ?_, ?_⟩
  · unfold cutV
    rw [List.map_take, List.map_drop]
  · rw [List.length_take, List.length_drop]; omega
theorem Holds.perm {names roots ms ws ms' ws' : List Int} {nb : Int → List Int} (h1 : ms'.Perm ms) (h2 : ws'.Perm ws) : Holds names nb roots ms' ws' ↔ Holds names nb roots ms ws := by
  unfold Holds
  have e1 : ∀ x, x ∈ ms' ↔ x ∈ ms := fun x => h1.mem_iff
  have e2 : ∀ x, x ∈ ws' ↔ x ∈ ws := fun x => h2.mem_iff
  rw [h1.nodup_iff]
  simp only [List.mem_append, e1, e2]
theorem IK_fst (ns : List Int) : (IK ns).map (·.1) = ns.map Sum.inl := by
  unfold IK ikv
  rw [List.map_map, List.map_map]
  rfl
section
variable {P : Program} {w : World} {K : PySem.W.Frag} {mg : Str → Option Value} {base : Heap}
abbrev nJ : List Str := ["box", "links", "roots", "marks", "marked", "waiting", "rows", "one", "other", "due"]
theorem scJ : FnScope nJ ["box", "links", "roots", "marks"] (defScope sJ) := ⟨rfl, rfl, rfl, by decide +kernel, rfl, by decide +kernel, by decide +kernel⟩
theorem ok_j {f C : Addr} {fd : FuncData} (F : Fun K "_law_judged_right" "_law_judged_right" sJ f fd) (B : Blt mg) (T : MTxt K mg C) (Ho : Df K mg "_law_hold" sHold ["links", "roots", "marked", "waiting"]) (Mh : Df K mg "marks_hold" sMH ["links", "roots", "marked", "waiting"]) (Is : Df K mg "is_sequence" sIsq ["value"]) :
    FnG P w K mg base CX0 3 f fd ["box", "links", "roots", "marks"] (spJ C K) := by
  have GH : FnOk P w K mg base CX0 1 Ho.f Ho.fd ["links", "roots", "marked", "waiting"] (spHold K) := ok_hold Ho.F B
  have GM : FnOk P w K mg base CX0 2 Mh.f Mh.fd ["links", "roots", "marked", "waiting"] (spMH K) := ok_mh Mh.F B Is.m Is.k Is.F Is.b
  have kb := Mh.F.kbn0 (ps := ["links", "roots", "marked", "waiting"]) (ks := ["waiting", "marked", "roots", "links"]) List.reverse Vals.reverse fun _ _ _ _ _ _ us hl => match us, hl with | [_, _, _, _], _ => rfl
  refine F.okG scJ (fun vs H Q E h => ?_) (fun cdv A outer s H vs Q E hG hr h => ?_)
  · obtain ⟨b, L, ra, p, dm, dw, names, roots, ms, ws, nb, rfl, _⟩ := h
    rfl
  · obtain ⟨b, L, ra, p, dm, dw, names, roots, ms, ws, nb, rfl, hL, hR, M, l1, l2, l3, l4, l5, k⟩ := h
    have hu := hu_of hr
    have hr1 : Room 1 _ := hr.mono (by decide)
    refine ⟨_, pss_cons (ps_par (i := 4) (j := 5) (by rfl) scJ.nd rfl rfl (by decide) rfl rfl (pa_cons (c_sortedD rfl B (pe_fld (pv 3) rfl)) (pa_cons (c_sortedD rfl B (pe_fld (pv 3) rfl)) pa_nil)) (by rfl))
      (pss_cons (ps_set (i := 6) scJ.nd rfl (.inl rfl) (pe_lst
        (pa_cons (pe_tup (pa_cons (pv 4) (pa_cons (pv 5) pa_nil)))
        (pa_cons (pe_tup (pa_cons (pe_slice sl_list (pv 4) (po_some pe_int) po_none) (pa_cons (pv 5) pa_nil)))
        (pa_cons (pe_tup (pa_cons (pv 4) (pa_cons (pe_slice sl_list (pv 5) (po_some pe_int) po_none) pa_nil)))
        (pa_cons (pe_tup (pa_cons (pe_op op_cat (pv 4) (pe_lst (pa_cons pe_int pa_nil))) (pa_cons (pv 5) pa_nil)))
        (pa_cons (pe_tup (pa_cons (pe_op op_cat (pv 4) (pe_slice sl_list (pv 4) po_none (po_some pe_int))) (pa_cons (pv 5) pa_nil)))
        (pa_cons (pe_tup (pa_cons (pv 4) (pa_cons (pe_op op_cat (pv 5) (pe_slice sl_list (c_sortedD rfl B (pv 1)) po_none (po_some pe_int))) pa_nil))) pa_nil))))))))
      (pss_cons (ps_for PassesOwn.never rfl (pi_list (pv 6)) (pg_tup (by rfl) (pgs_cons (pg_name (i := 7) scJ.nd rfl (.inl rfl)) (pgs_cons (pg_name (i := 8) scJ.nd rfl (.inl rfl)) pgs_nil)))
        (pss_cons (ps_set (i := 9) scJ.nd rfl (.inl rfl) (pe_call GH hr1 (by rfl) Ho.m Ho.k Ho.b .nil pass0 (pa_cons (pv 1) (pa_cons (pv 2) (pa_cons (pv 7) (pa_cons (pv 8) pa_nil))))))
        (pss_one (ps_if (pt_cmpR op_ne (c_repr hG hr B (pe_lst (pa_cons (pe_call GM hr (by rfl) Mh.m Mh.k Mh.b .nil pass0 (pa_cons (pv 1) (pa_cons (pv 2) (pa_cons (pv 7) (pa_cons (pv 8) pa_nil)))))
            (pa_cons (pe_callN0 GM hr (by rfl) Mh.m Mh.k kb pass0 (pk_cons (c_tuple B (pv 8)) (pk_cons (c_tuple B (pv 7)) (pk_cons (c_tuple B (pv 2)) (pk_cons (pv 1) pk_nil))))) pa_nil))))
            (c_repr hG hr B (pe_lst (pa_cons (pv 9) (pa_cons (pv 9) pa_nil)))) (nomark _)) (pss_one (ps_ret pe_bl)) pss_nil))))
      (pss_one (ps_ret (pe_call GH hr1 (by rfl) Ho.m Ho.k Ho.b .nil pass0 (pa_cons (pv 1) (pa_cons (pv 2) (pa_cons (pv 4) (pa_cons (pv 5) pa_nil))))))))), ?_⟩
    obtain ⟨⟨dx, hob⟩, hdm, hdw, hne⟩ := id M
    refine ⟨_, rfl, p, C, dx, _, _, rfl, hob, T.cl, T.nM, flds_m _ _, dm, _, ms, rfl, Rd.of hdm, IK_fst ms, by omega, fun ms' m pm _ nm => ?_⟩
    obtain ⟨H1, e1⟩ : ∃ H1, H1 = upd H m (.lst (ms'.map V.int)) := ⟨_, rfl⟩
    rw [← e1]
    have s1 : Same H H1 := by rw [e1]; exact Same.new nm
    have hm1 : H1 m = some (.lst (ms'.map V.int)) := by rw [e1, upd_same]
    have M1 := M.keep s1
    obtain ⟨⟨dx1, hob1⟩, hdm1, hdw1, _⟩ := id M1
    refine ⟨_, rfl, p, C, dx1, _, _, rfl, hob1, T.cl, T.nW, flds_w _ _, dw, _, ws, rfl, Rd.of hdw1, IK_fst ws, by omega, fun ws' w' pw _ nw => ?_⟩
    obtain ⟨H2, e2⟩ : ∃ H2, H2 = upd H1 w' (.lst (ws'.map V.int)) := ⟨_, rfl⟩
    rw [← e2]
    have s2' : Same H1 H2 := by rw [e2]; exact Same.new nw
    have s2 := s1.trans s2'
    have hm2 := s2' _ _ hm1
    have hw2 : H2 w' = some (.lst (ws'.map V.int)) := by rw [e2, upd_same]
    have hml : ms'.length ≤ 60 := by rw [pm.length_eq]; exact l2
    have hwl : ws'.length ≤ 60 := by rw [pw.length_eq]; exact l3
    refine ⟨_, _, rfl, ?_⟩
    -- (marked, waiting)
    refine ⟨_, rfl, _, rfl, sz2, fun t1 n1 => ?_⟩
    obtain ⟨A1, f1⟩ : ∃ X, X = upd H2 t1 (.tup [.ref m, .ref w']) := ⟨_, rfl⟩
    rw [← f1]
    have a1 : Same H2 A1 := by rw [f1]; exact Same.new n1
    have r1 : RowOk A1 (.ref t1) := ⟨t1, m, w', ms', ws', rfl, by rw [f1, upd_same], a1 _ _ hm2, a1 _ _ hw2, by omega, by omega⟩
    -- (marked[1:], waiting)
    refine ⟨_, rfl, 1, rfl, m, _, rfl, SqL.of (a1 _ _ hm2), fun p2 n2 => ?_⟩
    obtain ⟨c2, hc2, hcl2⟩ := cutV_ints ms' (some 1) none
    rw [hc2]
    obtain ⟨B2, g2⟩ : ∃ X, X = upd A1 p2 (.lst (c2.map V.int)) := ⟨_, rfl⟩
    rw [← g2]
    have b2 : Same A1 B2 := by rw [g2]; exact Same.new n2
    have hp2 : B2 p2 = some (.lst (c2.map V.int)) := by rw [g2, upd_same]
    refine ⟨_, rfl, sz2, fun t2 k2 => ?_⟩
    obtain ⟨A2, f2⟩ : ∃ X, X = upd B2 t2 (.tup [.ref p2, .ref w']) := ⟨_, rfl⟩
    rw [← f2]
    have a2 : Same B2 A2 := by rw [f2]; exact Same.new k2
    have q2 : Same H2 A2 := (a1.trans b2).trans a2
    have r2 : RowOk A2 (.ref t2) := ⟨t2, p2, w', c2, ws', rfl, by rw [f2, upd_same], a2 _ _ hp2, q2 _ _ hw2, by omega, by omega⟩
    -- (marked, waiting[1:])
    refine ⟨_, rfl, _, rfl, 1, rfl, w', _, rfl, SqL.of (q2 _ _ hw2), fun p3 n3 => ?_⟩
    obtain ⟨c3, hc3, hcl3⟩ := cutV_ints ws' (some 1) none
    rw [hc3]
    obtain ⟨B3, g3⟩ : ∃ X, X = upd A2 p3 (.lst (c3.map V.int)) := ⟨_, rfl⟩
    rw [← g3]
    have b3 : Same A2 B3 := by rw [g3]; exact Same.new n3
    have hp3 : B3 p3 = some (.lst (c3.map V.int)) := by rw [g3, upd_same]
    refine ⟨sz2, fun t3 k3 => ?_⟩
    obtain ⟨A3, f3⟩ : ∃ X, X = upd B3 t3 (.tup [.ref m, .ref p3]) := ⟨_, rfl⟩
    rw [← f3]
    have a3 : Same B3 A3 := by rw [f3]; exact Same.new k3
    have q3 : Same H2 A3 := (q2.trans b3).trans a3
    have r3 : RowOk A3 (.ref t3) := ⟨t3, m, p3, ms', c3, rfl, by rw [f3, upd_same], q3 _ _ hm2, a3 _ _ hp3, by omega, by omega⟩
    -- (marked + [5000], waiting)
    refine ⟨_, rfl, by decide, fun p4 n4 => ?_⟩
    obtain ⟨B4, g4⟩ : ∃ X, X = upd A3 p4 (.lst [.int 5000]) := ⟨_, rfl⟩
    rw [← g4]
    have b4 : Same A3 B4 := by rw [g4]; exact Same.new n4
    have hp4 : B4 p4 = some (.lst [.int 5000]) := by rw [g4, upd_same]
    refine ⟨m, p4, _, _, rfl, rfl, (q3.trans b4) _ _ hm2, hp4, ?_, fun u4 o4 => ?_⟩
    · rw [List.length_map]; exact Nat.le_of_lt (big (by simp; omega))
    obtain ⟨C4, j4⟩ : ∃ X, X = upd B4 u4 (.lst (ms'.map V.int ++ [.int 5000])) := ⟨_, rfl⟩
    rw [← j4]
    have d4 : Same B4 C4 := by rw [j4]; exact Same.new o4
    have hu4 : C4 u4 = some (.lst ((ms' ++ [5000]).map V.int)) := by rw [j4, upd_same, List.map_append]; rfl
    refine ⟨_, rfl, sz2, fun t4 k4 => ?_⟩
    obtain ⟨A4, f4⟩ : ∃ X, X = upd C4 t4 (.tup [.ref u4, .ref w']) := ⟨_, rfl⟩
    rw [← f4]
    have a4 : Same C4 A4 := by rw [f4]; exact Same.new k4
    have q4 : Same H2 A4 := ((q3.trans b4).trans d4).trans a4
    have r4 : RowOk A4 (.ref t4) := ⟨t4, u4, w', ms' ++ [5000], ws', rfl, by rw [f4, upd_same], a4 _ _ hu4, q4 _ _ hw2, by simp; omega, by omega⟩
    -- (marked + marked[:1], waiting)
    refine ⟨_, rfl, _, rfl, 1, rfl, m, _, rfl, SqL.of (q4 _ _ hm2), fun p5 n5 => ?_⟩
    obtain ⟨c5, hc5, hcl5⟩ := cutV_ints ms' none (some 1)
    rw [hc5]
    have hc5' : c5.length ≤ 1 := by
      have := congrArg List.length hc5
      rw [List.length_map] at this
      rw [← this]
      unfold cutV
      rw [List.length_take]
      have : HT.sIx (ms'.map V.int).length (ms'.map V.int).length (some 1) ≤ 1 := by
        generalize (ms'.map V.int).length = nn
        have e1 := HT.sIx_nat nn nn 1
        have e2 : HT.sIx nn nn (some 1) = min 1 nn := e1
        rw [e2]
        exact Nat.min_le_left _ _
      omega
    obtain ⟨B5, g5⟩ : ∃ X, X = upd A4 p5 (.lst (c5.map V.int)) := ⟨_, rfl⟩
    rw [← g5]
    have b5 : Same A4 B5 := by rw [g5]; exact Same.new n5
    have hp5 : B5 p5 = some (.lst (c5.map V.int)) := by rw [g5, upd_same]
    refine ⟨m, p5, _, _, rfl, rfl, (q4.trans b5) _ _ hm2, hp5, ?_, fun u5 o5 => ?_⟩
    · rw [List.length_map, List.length_map]; exact Nat.le_of_lt (big (by omega))
    obtain ⟨C5, j5⟩ : ∃ X, X = upd B5 u5 (.lst (ms'.map V.int ++ c5.map V.int)) := ⟨_, rfl⟩
    rw [← j5]
    have d5 : Same B5 C5 := by rw [j5]; exact Same.new o5
    have hu5 : C5 u5 = some (.lst ((ms' ++ c5).map V.int)) := by rw [j5, upd_same, List.map_append]
    refine ⟨_, rfl, sz2, fun t5 k5 => ?_⟩
    obtain ⟨A5, f5⟩ : ∃ X, X = upd C5 t5 (.tup [.ref u5, .ref w']) := ⟨_, rfl⟩
    rw [← f5]
    have a5 : Same C5 A5 := by rw [f5]; exact Same.new k5
    have q5 : Same H2 A5 := ((q4.trans b5).trans d5).trans a5
    have r5 : RowOk A5 (.ref t5) := ⟨t5, u5, w', ms' ++ c5, ws', rfl, by rw [f5, upd_same], a5 _ _ hu5, q5 _ _ hw2, by rw [List.length_append]; omega, by omega⟩
    -- (marked, waiting + sorted(links)[:1])
    have sA5 := s2.trans q5
    obtain ⟨ps, hd, hps, _⟩ := (hL.keep sA5).d
    have hks : (ikv ps).map (·.1) = names.map Sum.inl := by
      rw [← hps]
      unfold ikv
      rw [List.map_map, List.map_map]
      rfl
    refine ⟨_, rfl, _, rfl, _, rfl, L, _, names, rfl, Rd.of hd, hks, by omega, fun ns' p6 pn _ n6 => ?_⟩
    obtain ⟨B6, g6⟩ : ∃ X, X = upd A5 p6 (.lst (ns'.map V.int)) := ⟨_, rfl⟩
    rw [← g6]
    have b6 : Same A5 B6 := by rw [g6]; exact Same.new n6
    have hp6 : B6 p6 = some (.lst (ns'.map V.int)) := by rw [g6, upd_same]
    refine ⟨1, rfl, p6, _, rfl, SqL.of hp6, fun v6 y6 => ?_⟩
    obtain ⟨c6, hc6, hcl6⟩ := cutV_ints ns' none (some 1)
    have hnl : ns'.length ≤ 60 := by rw [pn.length_eq]; exact l4
    rw [hc6]
    obtain ⟨D6, i6⟩ : ∃ X, X = upd B6 v6 (.lst (c6.map V.int)) := ⟨_, rfl⟩
    rw [← i6]
    have z6 : Same B6 D6 := by rw [i6]; exact Same.new y6
    have hv6 : D6 v6 = some (.lst (c6.map V.int)) := by rw [i6, upd_same]
    have q6' : Same H2 D6 := (q5.trans b6).trans z6
    refine ⟨w', v6, _, _, rfl, rfl, q6' _ _ hw2, hv6, ?_, fun u6 o6 => ?_⟩
    · rw [List.length_map, List.length_map]; exact Nat.le_of_lt (big (by omega))
    obtain ⟨C6, j6⟩ : ∃ X, X = upd D6 u6 (.lst (ws'.map V.int ++ c6.map V.int)) := ⟨_, rfl⟩
    rw [← j6]
    have d6 : Same D6 C6 := by rw [j6]; exact Same.new o6
    have hu6 : C6 u6 = some (.lst ((ws' ++ c6).map V.int)) := by rw [j6, upd_same, List.map_append]
    refine ⟨sz2, fun t6 k6 => ?_⟩
    obtain ⟨A6, f6⟩ : ∃ X, X = upd C6 t6 (.tup [.ref m, .ref u6]) := ⟨_, rfl⟩
    rw [← f6]
    have a6 : Same C6 A6 := by rw [f6]; exact Same.new k6
    have q6 : Same H2 A6 := (q6'.trans d6).trans a6
    have r6 : RowOk A6 (.ref t6) := ⟨t6, m, u6, ms', ws' ++ c6, rfl, by rw [f6, upd_same], q6 _ _ hm2, a6 _ _ hu6, by omega, by rw [List.length_append]; omega⟩
    have s56 : Same A5 A6 := ((b6.trans z6).trans d6).trans a6
    have s45 : Same A4 A5 := (b5.trans d5).trans a5
    have s34 : Same A3 A4 := (b4.trans d4).trans a4
    have s23 : Same A2 A3 := b3.trans a3
    have s12 : Same A1 A2 := b2.trans a2
    refine ⟨(by show 6 ≤ sizeLine; decide), fun R nR => ?_⟩
    have hrows : ∀ v ∈ ([.ref t1, .ref t2, .ref t3, .ref t4, .ref t5, .ref t6] : List V), RowOk A6 v := fun v hv => by
      simp only [List.mem_cons, List.not_mem_nil, or_false] at hv
      rcases hv with rfl | rfl | rfl | rfl | rfl | rfl
      · exact ((((r1.keep s12).keep s23).keep s34).keep s45).keep s56
      · exact (((r2.keep s23).keep s34).keep s45).keep s56
      · exact ((r3.keep s34).keep s45).keep s56
      · exact (r4.keep s45).keep s56
      · exact r5.keep s56
      · exact r6
    have sA : Same H A6 := s2.trans q6
    have mA := q6 _ _ hm2
    have wA := q6 _ _ hw2
    refine ⟨_, rfl, R, rfl, ⟨_, SqL.of upd_same⟩, for_list (K := K) (a := R) (xs := [.ref t1, .ref t2, .ref t3, .ref t4, .ref t5, .ref t6]) (fun i σ H' => ∃ x7 x8 x9, σ = [some (.ref b), some (.ref L), some (.ref ra), some (.ref p), some (.ref m), some (.ref w'), some (.ref R), x7, x8, x9] ∧ Same (upd A6 R (.lst [.ref t1, .ref t2, .ref t3, .ref t4, .ref t5, .ref t6])) H')
      ⟨none, none, none, rfl, Same.refl _⟩ (fun i σ H' _ ⟨_, _, _, _, s⟩ => SqL.of (s _ _ upd_same)) ?_ ?_⟩
    · rintro i v σ H' hi ⟨x7, x8, x9, rfl, s⟩
      have sR := (Same.new nR).trans s
      obtain ⟨t, x, y, one, other, rfl, ht, hx, hy, ho, hth⟩ := (hrows v (List.mem_of_getElem? hi)).keep sR
      have sH := sA.trans sR
      refine ⟨t, _, rfl, SqT.of ht, rfl, _, _, rfl, _, _, rfl, rfl, ?_⟩
      -- due
      refine ⟨_, rfl, _, rfl, _, rfl, _, rfl, L, ra, x, y, names, roots, one, other, nb, rfl, hL.keep sH, SqL.of (sH _ _ hR), SqL.of hx, SqL.of hy, by omega, by omega, by omega, l5, fun G1 z1 => ?_⟩
      have sG1 := sH.trans z1
      refine ⟨_, rfl, _, rfl, _, rfl, _, rfl, L, ra, x, y, names, roots, one, other, nb, rfl, hL.keep sG1, .inl (sG1 _ _ hR), .inl (z1 _ _ hx), .inl (z1 _ _ hy), by omega, by omega, by omega, l5, fun G2 z2 => ?_⟩
      have zG2 := z1.trans z2
      have sG2 := sG1.trans z2
      refine ⟨_, rfl, y, _, rfl, .inl ⟨SqL.of (zG2 _ _ hy), fun ty nty => ⟨_, rfl, x, _, rfl, .inl ⟨SqL.of (Same.at nty (zG2 _ _ hx)), fun tx ntx => ⟨_, rfl, ra, _, rfl, .inl ⟨SqL.of (Same.at ntx (Same.at nty (sG2 _ _ hR))), fun tr ntr => ⟨_, rfl, rfl, rfl, ?_⟩⟩⟩⟩⟩⟩⟩
      have sG3 := ((sG2.up nty (o := .tup (other.map V.int))).up ntx (o := .tup (one.map V.int))).up ntr (o := .tup (roots.map V.int))
      refine ⟨L, tr, tx, ty, names, roots, one, other, nb, rfl, hL.keep sG3, .inr upd_same, .inr (Same.at ntr upd_same), .inr (Same.at ntr (Same.at ntx upd_same)), by omega, by omega, by omega, l5, fun G4 z4 => ?_⟩
      have sG4 := sG3.trans z4
      generalize decide (Holds names nb roots one other) = due
      have shown : ∀ due : Bool, (PyData.list [.bool due, .bool due]).shown.length ≤ sizeLine := by intro d; cases d <;> decide +kernel
      have deep : ∀ due : Bool, (PyData.list [.bool due, .bool due]).depth ≤ 100 := by intro d; cases d <;> decide +kernel
      refine ⟨sz2, fun l1' nl1 => ⟨_, .list [.bool due, .bool due], rfl, .lst (SqL.of upd_same) (.cons (.bl _) (.cons (.bl _) .nil)), rfl, rfl, deep due, shown due, ?_⟩⟩
      refine ⟨_, rfl, _, rfl, sz2, fun l2' nl2 => ⟨_, .list [.bool due, .bool due], rfl, .lst (SqL.of upd_same) (.cons (.bl _) (.cons (.bl _) .nil)), rfl, rfl, deep due, shown due, rfl, _, rfl, ?_⟩⟩
      refine iteNS rfl ?_
      exact ⟨_, _, _, rfl, ((((((s.trans z1).trans z2).up nty).up ntx).up ntr).trans z4).up nl1 |>.up nl2⟩
    · rintro σ H' ⟨x7, x8, x9, rfl, s⟩
      have sR := (Same.new nR).trans s
      have sH := sA.trans sR
      refine ⟨_, rfl, _, rfl, _, rfl, _, rfl, L, ra, m, w', names, roots, ms', ws', nb, rfl, hL.keep sH, SqL.of (sH _ _ hR), SqL.of (sR _ _ mA), SqL.of (sR _ _ wA), by omega, by omega, by omega, l5, fun G z => ?_⟩
      have := k G (sH.trans z)
      rwa [show decide (Holds names nb roots ms' ws') = decide (Holds names nb roots ms ws) from decide_eq_decide.mpr (Holds.perm pm pw)]
end
end K52
namespace K52
open PySem L2
abbrev sNW : Stmt := topS 17
def spNW (C : Addr) : Sp := fun vs H Q _ => ∃ (p dm dw : Addr) (ms ws : List Int), vs = [.ref p] ∧ MarksAt C H p dm dw ms ws ∧ ms.length ≤ 450 ∧ ws.length ≤ 450 ∧ (∀ x ∈ ws, x ∈ ms) ∧ (9000 : Int) ∉ ws ∧ ∀ H', Q (.bl true) H'
section
variable {P : Program} {w : World} {K : PySem.W.Frag} {mg : Str → Option Value} {base : Heap}
theorem scNW : FnScope ["marks", "fault"] ["marks"] (defScope sNW) := ⟨rfl, rfl, rfl, by decide +kernel, rfl, by decide +kernel, by decide +kernel⟩
theorem ok_nw {f C CR CK fS fI fL : Addr} {fd fdS fdL : FuncData} (F : Fun K "_law_not_waiting" "_law_not_waiting" sNW f fd) (B : Blt mg) (T : MTxt K mg C) (FS : Fun K "shade" "Marks.shade" sMS fS fdS) (bS : Binds K fdS ["self", "name"] []) (mS : Meth K C "shade" fS)
    (FL : Fun K "look" "Marks.look" sML fL fdL) (bL : Binds K fdL ["self", "name", "links"] []) (mL : Meth K C "look" fL) (R : KwE.ErrTxt P K mg "Refused" CR fI) (S : ErrIs K CR) (mK : mg "KeepError" = some (.ref CK)) (kit : PySem.W.kitOne K (.ref CR) (.ref CK) = some true) :
    FnOk P w K mg base CX0 4 f fd ["marks"] (spNW C) := by
  have GL : FnOk P w K mg base (L2.CX P w) 3 fL fdL ["self", "name", "links"] (spLook C CR K) := ok_look FL T B FS bS mS R
  refine F.ok scNW (fun vs H Q E h => ?_) (fun cdv A outer s H vs Q E hr h => ?_)
  · obtain ⟨p, dm, dw, ms, ws, rfl, _⟩ := h
    rfl
  · obtain ⟨p, dm, dw, ms, ws, rfl, M, l1, l2, hsub, h9, k⟩ := h
    refine ⟨_, pss_one (ps_try_as (i := 1) (tb := fun W => tSeq (tDrop (tMethSw "look" C (spLook C CR K) (WE W) (tVar 0) (tCons (tC (.int 9000)) (tCons (tTup tNil) tNil)))) (tRet (tC (.bl false))))
        (ts := fun a cls d => tRet (tAndV (tOp rEq (tErrAt CR a cls d (tVar 1)) (tC (.int 9000))) (tCB (rErrIs K CR a cls d) (tCons (tVar 1) (tCons (tC (.ref CK)) tNil))))) (Wout := fun _ _ _ _ => False) rfl rfl scNW.nd rfl rfl ⟨rfl, by decide, Or.inl R.gC⟩ takes0
          (fun W pn xe tk _ => pss_cons (ps_expr (by exact pe_methSw (pv 0) T.cl mL GL hr bL (fun σ => passAt tk σ) (by exact (pa_cons pe_int (pa_cons (pe_tup pa_nil) pa_nil))))) (pss_one (ps_ret pe_bl)))
          (fun a oe cls d pn hz hf => pss_one (ps_ret (by exact pe_and (pe_cmpR op_eq (pe_errAt R hz hf (pv 1)) pe_int (nomark _)) (pe_one (pe_callB (call_errIs R S hz hf) (by rfl) B.isinstance (by decide +kernel) (by exact (pa_cons (pv 1) (pa_cons (pe_glob (v := .ref CK) (by rfl) mK rfl) pa_nil))))))))), ?_⟩
    obtain ⟨dx, hob⟩ := M.ob
    refine ⟨_, rfl, p, dx, _, rfl, hob, flds_no _ _ (by decide +kernel) (by decide +kernel), by decide, fun t nt => ?_⟩
    refine ⟨p, dm, dw, t, ms, ws, [], 9000, rfl, M.keep (Same.new nt), l1, l2, by decide, SqT.of upd_same, List.nodup_nil, hsub, fun z => absurd z h9, fun _ d hd => ?_⟩
    refine ⟨true, R.te, fun _ a _ => ?_, fun q => Bool.noConfusion q⟩
    refine ⟨_, rfl, rfl, rfl, d, _, rfl, upd_same, rfl, ?_⟩
    refine ⟨_, rfl, ?_⟩
    rw [decide_eq_true rfl]
    refine iteT ?_
    exact ⟨_, rfl, CK, true, d, _, rfl, rfl, rfl, upd_same, kit, k _⟩
end
end K52
namespace K52
open PySem L2
/-! ### links read, locked or not -/
structure LinksR (K : PySem.W.Frag) (H : Hp) (L : Addr) (names : List Int) (nb : Int → List Int) : Prop where
  d : ∃ ps : List (Int × V), Rd H L (.dK (ikv ps)) ∧ ps.map (·.1) = names ∧ ∀ n ∈ names, ∃ t, ps.lookup n = some (.ref t) ∧ SqT K H t ((nb n).map V.int)
theorem LinksAt.r {K : PySem.W.Frag} {H : Hp} {L : Addr} {names : List Int} {nb : Int → List Int} (h : LinksAt K H L names nb) : LinksR K H L names nb := by
  obtain ⟨ps, h1, h2, h3⟩ := h.d
  exact ⟨ps, .inl h1, h2, h3⟩
theorem LinksR.keep {K : PySem.W.Frag} {H H' : Hp} {L : Addr} {names : List Int} {nb : Int → List Int} (h : LinksR K H L names nb) (s : Same H H') : LinksR K H' L names nb := by
  obtain ⟨ps, h1, h2, h3⟩ := h.d
  exact ⟨ps, s.rd h1, h2, fun n hn => (h3 n hn).imp fun t q => ⟨q.1, s.seqT q.2⟩⟩
theorem LinksR.get {K : PySem.W.Frag} {H : Hp} {L : Addr} {names : List Int} {nb : Int → List Int} {n : Int} (h : LinksR K H L names nb) (hn : n ∈ names) : ∃ t, DGet H L (.int n) (some (.ref t)) ∧ SqT K H t ((nb n).map V.int) := by
  obtain ⟨ps, h1, h2, h3⟩ := h.d
  obtain ⟨t, ht, hs⟩ := h3 n hn
  refine ⟨t, .inl ⟨ikv ps, Sum.inl n, h1, rfl, ?_⟩, hs⟩
  rw [valV_ikv, ht]
theorem LinksR.no {K : PySem.W.Frag} {H : Hp} {L : Addr} {names : List Int} {nb : Int → List Int} {n : Int} (h : LinksR K H L names nb) (hn : n ∉ names) : DGet H L (.int n) none := by
  obtain ⟨ps, h1, h2, h3⟩ := h.d
  refine .inl ⟨ikv ps, Sum.inl n, h1, rfl, ?_⟩
  rw [valV_ikv, lookup_none (by rw [h2]; exact hn)]
/-- locked for a walk over its keys -/
theorem LinksAt.lock {K : PySem.W.Frag} {H : Hp} {L : Addr} {names : List Int} {nb : Int → List Int} (h : LinksAt K H L names nb) : ∃ ps : List (Int × V), H L = some (.dK (ikv ps)) ∧ ps.map (·.1) = names ∧ ∀ od, LinksR K (upd H L (.frz od (.dK (ikv ps)))) L names nb := by
  obtain ⟨ps, h1, h2, h3⟩ := h.d
  refine ⟨ps, h1, h2, fun od => ⟨ps, .inr ⟨od, upd_same⟩, h2, fun n hn => (h3 n hn).imp fun t q => ⟨q.1, ?_⟩⟩⟩
  rcases q.2 with (h | ⟨o, h⟩) | h
  · exact .inl (.inl (by rw [upd_ne (ne_of h h1 (by intro z; cases z))]; exact h))
  · exact .inl (.inr ⟨o, by rw [upd_ne (ne_of h h1 (by intro z; cases z))]; exact h⟩)
  · exact .inr h
/-! ### the script: locked, or of the written part -/
def ScL (K : PySem.W.Frag) (H : Hp) (a : Addr) (xs : List V) : Prop := (∃ o, H a = some (.frz o (.lst xs))) ∨
  ∃ (o : Obj) (its : Array Value) (n : Nat), K.lookup a = some o ∧ o.cls = .type "list" ∧ o.dict = none ∧ o.data = .seq its n ∧ its.size ≤ sizeLine ∧ Vals xs its.toList
theorem ScL.seq {K : PySem.W.Frag} {H : Hp} {a : Addr} {xs : List V} (h : ScL K H a xs) : SqL K H a xs := h.imp (fun ⟨o, h⟩ => .inr ⟨o, h⟩) id
theorem ScL.keep {K : PySem.W.Frag} {H H' : Hp} {a : Addr} {xs : List V} (h : ScL K H a xs) (s : Same H H') : ScL K H' a xs := h.imp (fun ⟨o, h⟩ => ⟨o, s _ _ h⟩) id
theorem ScL.by {K : PySem.W.Frag} {H H' : Hp} {a : Addr} {xs : List V} (h : ScL K H a xs) (k : ∀ o, H a = some (.frz o (.lst xs)) → H' a = some (.frz o (.lst xs))) : ScL K H' a xs := h.imp (fun ⟨o, h⟩ => ⟨o, k o h⟩) id
/-! ### the law's state -/
structure Stt where
  L : Addr
  ra : Addr
  p : Addr
  dm : Addr
  dw : Addr
  sa : Addr
  names : List Int
  nb : Int → List Int
  rk : Int → Nat
  roots : List Int
  ms : List Int
  ws : List Int
  seen : List Int
  af : Int
  put : Int
  looks : Int
  takes : Int
  ord : Option (Addr × List Int)
def ordV : Option (Addr × List Int) → V
  | none => .non
  | some (oa, _) => .ref oa
structure LI (K : PySem.W.Frag) (C a : Addr) (ns : List Int) (i : Nat) (s : Stt) (H : Hp) : Prop where
  sc : ScL K H a (ns.map V.int)
  nl : ns.length ≤ 63
  ln : LinksAt K H s.L s.names s.nb
  lk : Lk s.names s.nb s.rk
  ra : H s.ra = some (.lst (s.roots.map V.int))
  rnd : s.roots.Nodup
  il : i ≤ 100
  rm : ∀ x ∈ s.roots, x ∈ s.ms
  mks : MarksAt C H s.p s.dm s.dw s.ms s.ws
  lm : s.L ≠ s.dm
  lw : s.L ≠ s.dw
  mnd : s.ms.Nodup
  wnd : s.ws.Nodup
  wm : ∀ x ∈ s.ws, x ∈ s.ms
  mn : ∀ x ∈ s.ms, x ∈ s.names
  mc : ∀ x ∈ s.ms, x ∉ s.ws → ∀ y ∈ s.nb x, y ∈ s.ms
  sn : H s.sa = some (.lst (s.seen.map V.int))
  sl : s.seen.length ≤ 30 * (i + 1)
  ms_sn : ∀ x ∈ s.ms, x ∈ s.seen
  sc_cl : ∀ x ∈ s.seen, x ∈ s.names → ∀ y ∈ s.nb x, y ∈ s.seen
  n1 : (s.names.length : Int) = s.af + s.put - s.takes
  n2 : s.looks = (s.ms.length : Int) - (s.ws.length : Int)
  p0 : 0 ≤ s.put
  p1 : s.put ≤ 12
  t0 : 0 ≤ s.takes
  a1 : s.af ≤ 10
  rg : ∀ x ∈ s.names, (0 ≤ x ∧ x < 1000) ∨ (3000 < x ∧ x ≤ 3000 + i)
  od : ∀ oa ord, s.ord = some (oa, ord) → H oa = some (.lst (ord.map V.int)) ∧ oa ≠ s.ra ∧ oa ≠ s.sa ∧ s.ws = [] ∧ ord.Nodup ∧ (∀ x, x ∈ ord ↔ x ∈ s.names ∧ x ∉ s.ms) ∧ ord.Pairwise (fun x y => x ∉ s.nb y)
theorem LI.nlen {K : PySem.W.Frag} {C a : Addr} {ns : List Int} {i : Nat} {s : Stt} {H : Hp} (h : LI K C a ns i s H) : s.names.length ≤ 22 := by
  have := h.n1; have := h.p1; have := h.t0; have := h.a1
  omega
theorem LI.mlen {K : PySem.W.Frag} {C a : Addr} {ns : List Int} {i : Nat} {s : Stt} {H : Hp} (h : LI K C a ns i s H) : s.ms.length ≤ 22 := Nat.le_trans (sub_len h.mnd h.mn) h.nlen
theorem LI.wlen {K : PySem.W.Frag} {C a : Addr} {ns : List Int} {i : Nat} {s : Stt} {H : Hp} (h : LI K C a ns i s H) : s.ws.length ≤ 22 := Nat.le_trans (sub_len h.wnd h.wm) h.mlen
theorem LI.rlen {K : PySem.W.Frag} {C a : Addr} {ns : List Int} {i : Nat} {s : Stt} {H : Hp} (h : LI K C a ns i s H) : s.roots.length ≤ 22 := Nat.le_trans (sub_len h.rnd h.rm) h.mlen
theorem LI.few {K : PySem.W.Frag} {C a : Addr} {ns : List Int} {i : Nat} {s : Stt} {H : Hp} (h : LI K C a ns i s H) : ∀ n ∈ s.names, (s.nb n).length ≤ 40 := fun n hn => Nat.le_trans (h.lk.few n hn) (by decide)
theorem LI.holds {K : PySem.W.Frag} {C a : Addr} {ns : List Int} {i : Nat} {s : Stt} {H : Hp} (h : LI K C a ns i s H) : Holds s.names s.nb s.roots s.ms s.ws := by
  refine ⟨h.mnd, fun x hx => ?_, h.mc⟩
  have : x ∈ s.ms := by
    rcases List.mem_append.mp hx with hx | hx
    · rcases List.mem_append.mp hx with hx | hx
      · exact hx
      · exact h.wm x hx
    · exact h.rm x hx
  exact ⟨h.mn x this, this⟩
theorem LI.keep {K : PySem.W.Frag} {C a : Addr} {ns : List Int} {i : Nat} {s : Stt} {H H' : Hp} (h : LI K C a ns i s H) (e : Same H H') : LI K C a ns i s H' :=
  { h with sc := h.sc.keep e, ln := h.ln.keep e, ra := e _ _ h.ra, mks := h.mks.keep e, sn := e _ _ h.sn, od := fun oa ord z => ⟨e _ _ (h.od oa ord z).1, (h.od oa ord z).2⟩ }
/-- a step more -/
theorem LI.more {K : PySem.W.Frag} {C a : Addr} {ns : List Int} {i j : Nat} {s : Stt} {H : Hp} (h : LI K C a ns i s H) (hij : i ≤ j) (hj : j ≤ 100) : LI K C a ns j s H :=
  { h with il := hj, sl := by have := h.sl; omega, rg := fun x hx => (h.rg x hx).imp id fun z => ⟨z.1, by omega⟩ }
theorem Reach.sub {nb : Int → List Int} {S T : List Int} (hs : ∀ x ∈ S, x ∈ T) (cl : ∀ x ∈ T, ∀ y ∈ nb x, y ∈ T) {x : Int} (h : Reach nb S x) : x ∈ T := by
  induction h with
  | base h => exact hs _ h
  | step _ hy ih => exact cl _ ih _ hy
/-! ### the facts of the top -/
structure Top (P : Program) (K : PySem.W.Frag) (mg : Str → Option Value) where
  C : Addr
  CR : Addr
  CK : Addr
  fM : Addr
  fS : Addr
  fF : Addr
  fL : Addr
  fE : Addr
  dM : FuncData
  dS : FuncData
  dF : FuncData
  dL : FuncData
  B : Blt mg
  T : MTxt K mg C
  M : Mk K C fM
  FM : Fun K "__init__" "Marks.__init__" sMI fM dM
  bM : Binds K dM ["self"] []
  FS : Fun K "shade" "Marks.shade" sMS fS dS
  bS : Binds K dS ["self", "name"] []
  mS : Meth K C "shade" fS
  FF : Fun K "first" "Marks.first" sMF fF dF
  bF : Binds K dF ["self"] []
  mF : Meth K C "first" fF
  FL : Fun K "look" "Marks.look" sML fL dL
  bL : Binds K dL ["self", "name", "links"] []
  mL : Meth K C "look" fL
  R : KwE.ErrTxt P K mg "Refused" CR fE
  S : ErrIs K CR
  mK : mg "KeepError" = some (.ref CK)
  kit : PySem.W.kitOne K (.ref CR) (.ref CK) = some true
  bx : Df K mg "_law_box" sBox ["script", "k"]
  tk : Df K mg "_law_take" sTake ["box", "many"]
  pk : Df K mg "_law_pick" sPick ["box", "some"]
  lk : Df K mg "_law_links" sLinks ["box", "most"]
  rd : Df K mg "_law_reached" sReached ["links", "starts"]
  ho : Df K mg "_law_hold" sHold ["links", "roots", "marked", "waiting"]
  jr : Df K mg "_law_judged_right" sJ ["box", "links", "roots", "marks"]
  nw : Df K mg "_law_not_waiting" sNW ["marks"]
  to : Df K mg "taking_order" sTO ["links", "names"]
  mh : Df K mg "marks_hold" sMH ["links", "roots", "marked", "waiting"]
  is : Df K mg "is_sequence" sIsq ["value"]
/-! ### the law's text by parts -/
abbrev sLaw : Stmt := topS 18
def lawSt (i : Nat) : Stmt := (defBody sLaw).getD i (.Pass ⟨0, 0, 0, 0⟩)
def forB : Stmt → List Stmt
  | .For _ _ b _ _ => b
  | _ => []
def ifB : Stmt → List Stmt
  | .If _ b _ _ => b
  | _ => []
def ifE : Stmt → List Stmt
  | .If _ _ b _ => b
  | _ => []
def hd : List Stmt → Stmt
  | s :: _ => s
  | [] => .Pass ⟨0, 0, 0, 0⟩
abbrev nL : List Str := ["script", "box", "links", "name", "roots", "marks", "seen", "at_first", "put", "looks", "takes", "order", "k", "deed", "some", "due", "link", "one"]
theorem scL : FnScope nL ["script"] (defScope sLaw) := ⟨rfl, rfl, rfl, by decide +kernel, rfl, by decide +kernel, by decide +kernel⟩
end K52
namespace K52
open PySem L2
/-- the law's frame -/
abbrev XL (P : Program) (w : World) (K : PySem.W.Frag) (mg : Str → Option Value) (base : Heap) (f : Addr) (cdv : Value) (A : Around) (outer : List Env) (s0 : Shared) (H0 : Hp) (E : XK) : Cx :=
  (cxOf CX0 P w K mg base nL "law" (defScope sLaw) f cdv A outer s0 H0 E).nox
abbrev SL (a b : Addr) (s : Stt) (x3 x12 x13 x14 x15 : Option V) : L2.St :=
  [some (.ref a), some (.ref b), some (.ref s.L), x3, some (.ref s.ra), some (.ref s.p), some (.ref s.sa), some (.int s.af), some (.int s.put), some (.int s.looks), some (.int s.takes), some (ordV s.ord), x12, x13, x14, x15, none, none]
theorem filt_none (l : List Int) : (l.filter fun _ => false) = [] := by simp
section
variable {P : Program} {w : World} {K : PySem.W.Frag} {mg : Str → Option Value} {base : Heap} {f : Addr} {cdv : Value} {A : Around} {outer : List Env} {s0 : Shared} {H0 : Hp} {E : XK}
/-- what the loop asks behind each deed: it holds -/
theorem law_chk (T : Top P K mg) (hG : (XL P w K mg base f cdv A outer s0 H0 E).A.guards = some []) (hr : Room 4 (XL P w K mg base f cdv A outer s0 H0 E).A) :
    ∃ t, PSs (XL P w K mg base f cdv A outer s0 H0 E) ((forB (lawSt 6)).drop 3) t ∧ ∀ (D : Ends) (a b : Addr) (ns : List Int) (i : Nat) (s : Stt) (x3 x12 x13 x14 x15 : Option V) (H : Hp), LI K T.C a ns i s H →
      (∀ H', Same H H' → D.nx (SL a b s x3 x12 x13 x14 x15) H') → t D (SL a b s x3 x12 x13 x14 x15) H := by
  have GJ : FnG P w K mg base CX0 3 T.jr.f T.jr.fd ["box", "links", "roots", "marks"] (spJ T.C K) := ok_j T.jr.F T.B T.T T.ho T.mh T.is
  have GR : FnOk P w K mg base CX0 1 T.rd.f T.rd.fd ["links", "starts"] (spReached K) := ok_reached T.rd.F T.B
  have hu := hu_of hr
  have hr1 : Room 1 (XL P w K mg base f cdv A outer s0 H0 E).A := hr.mono (by decide)
  have hr3 : Room 3 (XL P w K mg base f cdv A outer s0 H0 E).A := hr.mono (by decide)
  refine ⟨_, pss_cons (ps_if (PW.pt (pw_or (pt_not (pt_val (pe_callG2 GJ hG hr3 (by rfl) T.jr.m T.jr.k T.jr.b pass0 (pa_cons (pv 1) (pa_cons (pv 2) (pa_cons (pv 4) (pa_cons (pv 5) pa_nil)))))))
      (pw_or1 (pt_cmpR (op_neD hr.units) (pe_lock (pe_lc (own := [("name", 3)]) (g := gName 3) (by rfl) scL.nd (pi_keys (pv 2)) (blkOk_by (own := [("name", 3)]) (N := nL) (sc := defScope sLaw) (by decide +kernel)) (fun _ _ _ _ _ => pg_name (i := 3) scL.nd rfl (Or.inl rfl))
          (fun _ _ _ _ _ => pts_one (pt_cmpR (op_neDK (K := K) rfl hr.units)
            (pe_lc (own := [("link", 16)]) (g := gName 16) (by rfl) scL.nd (pi_tupK (K := K) rfl (by exact pe_dget hu (pv 2) (pv 3) (fun _ _ => rfl))) (blkOk_by (own := [("link", 16)]) (N := nL) (sc := cSc ["name"] ["links"]) (by decide +kernel)) (fun _ _ _ _ _ => pg_name (i := 16) scL.nd rfl (Or.inl rfl))
              (fun _ _ _ _ _ => pts_one (pt_cmp (pc_dnotin hu (pv 16) (pv 2)))) (fun _ _ _ _ _ => pv 16))
            (pe_lst pa_nil) (nomark _))) (fun _ _ _ _ _ => pv 3))) (pe_lst pa_nil) (nomark _))))) (pss_one (ps_ret pe_bl)) pss_nil)
    (pss_one (ps_if (pt_cmpR (op_neD hr.units) (pe_lc (own := [("name", 3)]) (g := gName 3) (by rfl) scL.nd (pi_list (pe_call GR hr1 (by rfl) T.rd.m T.rd.k T.rd.b .nil pass0 (pa_cons (pv 2) (pa_cons (pv 4) pa_nil)))) (blkOk_by (own := [("name", 3)]) (N := nL) (sc := defScope sLaw) (by decide +kernel)) (fun _ _ _ _ _ => pg_name (i := 3) scL.nd rfl (Or.inl rfl))
          (fun _ _ _ _ _ => pts_one (pt_cmp (pc_dnotin hu (pv 3) (pv 2)))) (fun _ _ _ _ _ => pv 3)) (pe_lst pa_nil) (nomark _)) (pss_one (ps_ret pe_bl)) pss_nil)), ?_⟩
  intro D a b ns i s x3 x12 x13 x14 x15 H I k
  have nl := I.nlen
  have cl := I.lk.cl
  refine ⟨_, rfl, _, rfl, _, rfl, _, rfl, b, s.L, s.ra, s.p, s.dm, s.dw, s.names, s.roots, s.ms, s.ws, s.nb, rfl, I.ln, I.ra, I.mks, by have := I.rlen; omega, by have := I.mlen; omega, by have := I.wlen; omega, by omega, I.few, fun H1 e1 => ⟨_, rfl, ?_⟩⟩
  rw [decide_eq_true I.holds]
  refine iteF ?_
  obtain ⟨ps, hL, hps, hlk⟩ := (I.ln.keep e1).lock
  refine ⟨s.L, _, hL, trivial, fun od => ⟨_, rfl, s.L, od, rfl, .inl ⟨_, upd_same, fun D1 nD1 => ?_⟩⟩⟩
  have hDL : D1 ≠ s.L := fun z => by rw [z, upd_same] at nD1; cases nD1
  refine lcF (walkI_keys (d := s.L) (o := od) (ps := ps)) (fun _ => false) V.int nD1 (big (by rw [hps]; omega)) (fun H' e => e _ _ upd_same) ?_ ?_
  · intro n H' acc N hn e hD hacc kt kf
    rw [hps] at hn
    have lr := (hlk od).keep e
    obtain ⟨t, ht, hts⟩ := lr.get hn
    refine ⟨rfl, _, rfl, _, rfl, s.L, _, rfl, ht, t, rfl, ⟨_, hts⟩, fun D2 nD2 => ?_⟩
    refine lcF (walkI_tup (K := K) (a := t) (ns := s.nb n)) (fun _ => false) V.int nD2 (big (Nat.le_trans (I.few n hn) (by decide))) (fun H' e => e.seqT hts) ?_ ?_
    · intro y H2 acc2 N2 hy e2 hD2 hacc2 kt2 kf2
      obtain ⟨t2, ht2, _⟩ := (lr.keep e2).get (cl n hn y hy)
      exact ⟨rfl, _, rfl, _, rfl, s.L, _, rfl, ht2, _, rfl, iteF (kf2 rfl _ (Same.refl _))⟩
    · intro H2 e2 hD2
      rw [filt_none] at hD2
      refine ⟨by decide, fun l nl => ⟨_, _, .lst (SqL.of (Same.at nl hD2)) (dp_ints []), .lst (SqL.of upd_same) .nil, shaped_list [], shaped_list [], _, rfl, ?_⟩⟩
      rw [show PyData.eqv (.list (dInts [])) (.list []) = decide (([] : List Int) = []) from eqv_list [] [], decide_eq_true rfl]
      exact iteF (kf rfl _ (e2.up nl))
  · intro H3 e3 hD3
    rw [filt_none] at hD3
    refine ⟨e3 _ _ upd_same, ?_⟩
    have e4 : Same H1 (upd H3 s.L (.dK (ikv ps))) := Same.frz e3 hL
    have hD4 : (upd H3 s.L (.dK (ikv ps))) D1 = some (.lst []) := by rw [upd_ne hDL]; exact hD3
    generalize upd H3 s.L (.dK (ikv ps)) = H4 at e4 hD4 ⊢
    refine ⟨by decide, fun l nl' => ⟨_, _, .lst (SqL.of (Same.at nl' hD4)) (dp_ints []), .lst (SqL.of upd_same) .nil, shaped_list [], shaped_list [], _, rfl, ?_⟩⟩
    rw [show PyData.eqv (.list (dInts [])) (.list []) = decide (([] : List Int) = []) from eqv_list [] [], decide_eq_true rfl]
    refine iteF ?_
    have e5 := (e1.trans e4).up (o := .lst []) nl'
    generalize upd H4 l (.lst []) = H5 at e5 ⊢
    have I5 := I.keep e5
    refine ⟨_, rfl, _, rfl, s.L, s.ra, s.names, s.roots, s.nb, rfl, I5.ln, SqL.of I5.ra, ?_, by omega, I.few, cl, fun x hx => I.mn x (I.rm x hx), fun r H6 q e6 nq hq hrl hr => ?_⟩
    · have := I.rlen; omega
    have I6 := I5.keep e6
    refine ⟨q, rfl, ⟨_, SqL.of hq⟩, fun D7 nD7 => ?_⟩
    refine lcF (walkI_list (K := K) (a := q) (ns := r)) (fun _ => false) V.int nD7 (big (by omega)) (fun H' e => SqL.of (e _ _ hq)) ?_ ?_
    · intro n H' acc N hn e hD hacc kt kf
      have hin : n ∈ s.names := Reach.sub (fun x hx => I.mn x (I.rm x hx)) cl ((hr n).mp hn)
      obtain ⟨t2, ht2, _⟩ := ((I6.keep e).ln).get hin
      exact ⟨rfl, _, rfl, _, rfl, s.L, _, rfl, ht2, _, rfl, iteF (kf rfl _ (Same.refl _))⟩
    · intro H8 e8 hD8
      rw [filt_none] at hD8
      refine ⟨by decide, fun l nl' => ⟨_, _, .lst (SqL.of (Same.at nl' hD8)) (dp_ints []), .lst (SqL.of upd_same) .nil, shaped_list [], shaped_list [], _, rfl, ?_⟩⟩
      rw [show PyData.eqv (.list (dInts [])) (.list []) = decide (([] : List Int) = []) from eqv_list [] [], decide_eq_true rfl]
      refine iteF ?_
      exact k _ (((e5.trans e6).trans e8).up nl')
end
end K52
namespace K52
open PySem L2
theorem sz1 : 1 ≤ sizeLine := by decide
def chain : Stmt := (forB (lawSt 6)).getD 2 (.Pass ⟨0, 0, 0, 0⟩)
theorem sub_nd {names ls : List Int} {nb : Int → List Int} {n : Int} {x : Int} (h : x ≠ n) : (fun m => if m = n then ls else nb m) x = nb x := if_neg h
/-! ### lists and tuples while a dict is stored to -/
theorem ScL.dk {K : PySem.W.Frag} {H : Hp} {a L : Addr} {xs : List V} {kvs : List (Key × V)} {o : HO} (h : ScL K H a xs) (e : H L = some (.dK kvs)) : ScL K (upd H L o) a xs := h.by fun u q => by rw [upd_ne (ne_of q e (by intro z; cases z))]; exact q
theorem ScL.lst {K : PySem.W.Frag} {H : Hp} {a L : Addr} {xs ys : List V} {o : HO} (h : ScL K H a xs) (e : H L = some (.lst ys)) : ScL K (upd H L o) a xs := h.by fun u q => by rw [upd_ne (ne_of q e (by intro z; cases z))]; exact q
theorem seqL_dk {K : PySem.W.Frag} {H : Hp} {a L : Addr} {xs : List V} {kvs : List (Key × V)} {o : HO} (h : SqL K H a xs) (e : H L = some (.dK kvs)) : SqL K (upd H L o) a xs := by
  rcases h with (h | ⟨u, h⟩) | h
  · exact .inl (.inl (by rw [upd_ne (ne_of h e (by intro z; cases z))]; exact h))
  · exact .inl (.inr ⟨u, by rw [upd_ne (ne_of h e (by intro z; cases z))]; exact h⟩)
  · exact .inr h
theorem seqT_dk {K : PySem.W.Frag} {H : Hp} {a L : Addr} {xs : List V} {kvs : List (Key × V)} {o : HO} (h : SqT K H a xs) (e : H L = some (.dK kvs)) : SqT K (upd H L o) a xs := by
  rcases h with (h | ⟨u, h⟩) | h
  · exact .inl (.inl (by rw [upd_ne (ne_of h e (by intro z; cases z))]; exact h))
  · exact .inl (.inr ⟨u, by rw [upd_ne (ne_of h e (by intro z; cases z))]; exact h⟩)
  · exact .inr h
section
variable {C p dm dw : Addr} {ms ws : List Int} {K : PySem.W.Frag} {H H' : Hp} {a : Addr} {xs : List V}
theorem MarksAt.lst (M : MarksAt C H p dm dw ms ws) (f : Fr2 dm dw H H') (h : H a = some (.lst xs)) : H' a = some (.lst xs) := f _ _ h (ne_of h M.m (by intro z; cases z)) (ne_of h M.w (by intro z; cases z))
theorem MarksAt.scL (M : MarksAt C H p dm dw ms ws) (f : Fr2 dm dw H H') (h : ScL K H a xs) : ScL K H' a xs := h.by fun u q => f _ _ q (ne_of q M.m (by intro z; cases z)) (ne_of q M.w (by intro z; cases z))
theorem MarksAt.seqL (M : MarksAt C H p dm dw ms ws) (f : Fr2 dm dw H H') (h : SqL K H a xs) : SqL K H' a xs := by
  rcases h with (h | ⟨u, h⟩) | h
  · exact .inl (.inl (M.lst f h))
  · exact .inl (.inr ⟨u, f _ _ h (ne_of h M.m (by intro z; cases z)) (ne_of h M.w (by intro z; cases z))⟩)
  · exact .inr h
theorem MarksAt.seqT (M : MarksAt C H p dm dw ms ws) (f : Fr2 dm dw H H') (h : SqT K H a xs) : SqT K H' a xs := by
  rcases h with (h | ⟨u, h⟩) | h
  · exact .inl (.inl (f _ _ h (ne_of h M.m (by intro z; cases z)) (ne_of h M.w (by intro z; cases z))))
  · exact .inl (.inr ⟨u, f _ _ h (ne_of h M.m (by intro z; cases z)) (ne_of h M.w (by intro z; cases z))⟩)
  · exact .inr h
theorem MarksAt.links {L : Addr} {names : List Int} {nb : Int → List Int} (M : MarksAt C H p dm dw ms ws) (f : Fr2 dm dw H H') (h : LinksAt K H L names nb) (n1 : L ≠ dm) (n2 : L ≠ dw) : LinksAt K H' L names nb := by
  obtain ⟨ps, h1, h2, h3⟩ := h.d
  exact ⟨ps, f _ _ h1 n1 n2, h2, fun n hn => (h3 n hn).imp fun t q => ⟨q.1, M.seqT f q.2⟩⟩
theorem MarksAt.dk {L : Addr} {kvs : List (Key × V)} {o : HO} (M : MarksAt C H p dm dw ms ws) (e : H L = some (.dK kvs)) (n1 : L ≠ dm) (n2 : L ≠ dw) : MarksAt C (upd H L o) p dm dw ms ws :=
  ⟨M.ob.imp fun dx h => by rw [upd_ne (ne_of h e (by intro z; cases z))]; exact h, by rw [upd_ne n1.symm]; exact M.m, by rw [upd_ne n2.symm]; exact M.w, M.ne⟩
end
section
variable {P : Program} {w : World} {K : PySem.W.Frag} {mg : Str → Option Value} {base : Heap} {f : Addr} {cdv : Value} {A : Around} {outer : List Env} {s0 : Shared} {H0 : Hp} {E : XK}
/-- a name is put: its links, the roots, the mark, what was seen -/
theorem law_put2 (T : Top P K mg) (hr : Room 4 (XL P w K mg base f cdv A outer s0 H0 E).A) :
    ∃ t, PSs (XL P w K mg base f cdv A outer s0 H0 E) ((ifB chain).drop 1) t ∧ ∀ (D : Ends) (a b p0 : Addr) (ns acc : List Int) (i : Nat) (s : Stt) (x12 x13 x15 : Option V) (H : Hp), LI K T.C a ns i s H → i + 1 ≤ 100 → s.put < 12 → H p0 = some (.lst (acc.map V.int)) → acc.length ≤ 3 → (∀ x ∈ acc, x ∈ s.names) →
      (∀ s' H' x14', LI K T.C a ns (i + 1) s' H' → D.nx (SL a b s' (some (.int (3000 + ((1 : Int) + i)))) x12 x13 x14' x15) H') → t D (SL a b s (some (.int (3000 + ((1 : Int) + i)))) x12 x13 (some (.ref p0)) x15) H := by
  have GR : FnOk P w K mg base CX0 1 T.rd.f T.rd.fd ["links", "starts"] (spReached K) := ok_reached T.rd.F T.B
  have GS : FnOk P w K mg base CX0 1 T.fS T.dS ["self", "name"] (spShade T.C) := ok_shade T.FS T.T
  have hu := hu_of hr
  have hr1 : Room 1 (XL P w K mg base f cdv A outer s0 H0 E).A := hr.mono (by decide)
  refine ⟨_, pss_cons (ps_asg (pe_tup (pa_cons (c_tuple T.B (c_sortedSet rfl T.B (c_set rfl T.B (pv 14)))) (pa_cons (pe_op op_add (pv 8) pe_int) (pa_cons (pe_op op_cat (pv 4) (pe_lst (pa_cons (pv 3) pa_nil))) pa_nil))))
      (pg_tup (by rfl) (pgs_cons (pg_sub (pv 2) (pv 3) (set_dict hu)) (pgs_cons (pg_name (i := 8) scL.nd rfl (.inl rfl)) (pgs_cons (pg_name (i := 4) scL.nd rfl (.inl rfl)) pgs_nil)))))
    (pss_cons (ps_if (pt_cmpR op_notBl (pe_meth (pv 5) T.T.cl T.mS GS hr1 T.bS .nil pass0 (pa_cons (pv 3) pa_nil)) pe_bl (nomark _)) (pss_one (ps_ret pe_bl)) pss_nil)
    (pss_one (ps_asg (pe_tup (pa_cons (pe_op op_cat (pv 6) (pe_call GR hr1 (by rfl) T.rd.m T.rd.k T.rd.b .nil pass0 (pa_cons (pv 2) (pa_cons (pe_lst (pa_cons (pv 3) pa_nil)) pa_nil)))) (pa_cons pe_non pa_nil)))
      (pg_tup (by rfl) (pgs_cons (pg_name (i := 6) scL.nd rfl (.inr rfl)) (pgs_cons (pg_name (i := 11) scL.nd rfl (.inl rfl)) pgs_nil)))))), ?_⟩
  intro D a b p0 ns acc i s x12 x13 x15 H I hi hp hp0 hal hac k
  generalize en : (3000 + ((1 : Int) + i)) = n at k ⊢
  have hnn : n ∉ s.names := fun h => by
    rcases I.rg n h with z | z <;> omega
  have hnm : n ∉ s.ms := fun h => hnn (I.mn n h)
  have hnw : n ∉ s.ws := fun h => hnm (I.wm n h)
  have hml := I.mlen
  have hwl := I.wlen
  have hrl := I.rlen
  have hnl := I.nlen
  refine ⟨_, rfl, p0, acc, rfl, .inl (SqL.of hp0), by omega, fun q c m nd hm hc hcl nq => ⟨q, _, c, rfl, upd_same, by omega, fun r1 p1 hinc hmem hlen np1 => ⟨p1, _, rfl, .inl ⟨SqL.of upd_same, fun t nt => ?_⟩⟩⟩⟩
  have nd1 : r1.Nodup := hinc.imp fun h => by omega
  have hm1 : ∀ x, x ∈ r1 ↔ x ∈ acc := fun x => (hmem x).trans ⟨of_decide_eq_true, decide_eq_true⟩
  obtain ⟨H1, e1⟩ : ∃ X, X = upd (upd (upd H q (SetO (XL P w K mg base f cdv A outer s0 H0 E).w q (fun j => decide (j ∈ acc)) c)) p1 (.lst (r1.map V.int))) t (.tup (r1.map V.int)) := ⟨_, rfl⟩
  rw [← e1]
  have f1 : Same H H1 := by rw [e1]; exact (((Same.refl H).up nq).up np1).up nt
  have ht1 : H1 t = some (.tup (r1.map V.int)) := by rw [e1, upd_same]
  refine ⟨_, rfl, _, _, rfl, rfl, _, rfl, _, rfl, sz1, fun u nu => ?_⟩
  have hraU := Same.at nu (o := .lst [.int n]) (f1 _ _ I.ra)
  refine ⟨s.ra, u, _, _, rfl, rfl, hraU, upd_same, (by rw [List.length_map]; exact Nat.le_of_lt (big (by simp; omega))), fun R nR => ?_⟩
  have er : s.roots.map V.int ++ [V.int n] = (s.roots ++ [n]).map V.int := by rw [List.map_append]; rfl
  rw [er]
  refine ⟨(by show 3 ≤ sizeLine; decide), fun tp ntp => ⟨tp, _, rfl, SqT.of upd_same, rfl, ?_⟩⟩
  obtain ⟨H2, e2⟩ : ∃ X, X = upd (upd (upd H1 u (.lst [.int n])) R (.lst ((s.roots ++ [n]).map V.int))) tp (.tup [.ref t, .int (s.put + 1), .ref R]) := ⟨_, rfl⟩
  rw [← e2]
  have f2' : Same H1 H2 := by rw [e2]; exact (((Same.refl H1).up nu).up nR).up ntp
  have f2 := f1.trans f2'
  have ht2 := f2' _ _ ht1
  have hR2 : H2 R = some (.lst ((s.roots ++ [n]).map V.int)) := by rw [e2]; exact Same.at ntp upd_same
  have I2 := I.keep f2
  obtain ⟨kvs, hk1, hk2, hk3⟩ := I2.ln.put hnn (SqT.of ht2)
  obtain ⟨rk', hLk⟩ := I.lk.put hnn (by rw [hlen, ← hc]; exact Nat.le_trans (sub_len nd fun x hx => (hm x).mp hx) hal) nd1 (fun x hx => hac x ((hm1 x).mp hx))
  refine ⟨_, _, rfl, _, rfl, _, rfl, s.L, _, rfl, DPut.k (k := Sum.inl n) hk1 (big (by omega)), _, _, rfl, _, _, rfl, rfl, ?_⟩
  have M3 := I2.mks.dk (o := .dK (putK kvs (Sum.inl n) (.ref t))) hk1 I.lm I.lw
  have hR3 : (upd H2 s.L (.dK (putK kvs (Sum.inl n) (.ref t)))) R = some (.lst ((s.roots ++ [n]).map V.int)) := by rw [upd_ne (ne_of hR2 hk1 (by intro z; cases z))]; exact hR2
  have hS3 : (upd H2 s.L (.dK (putK kvs (Sum.inl n) (.ref t)))) s.sa = some (.lst (s.seen.map V.int)) := by rw [upd_ne (ne_of I2.sn hk1 (by intro z; cases z))]; exact I2.sn
  have hC3 := ScL.dk (o := .dK (putK kvs (Sum.inl n) (.ref t))) I2.sc hk1
  generalize upd H2 s.L (.dK (putK kvs (Sum.inl n) (.ref t))) = H3 at hk3 M3 hR3 hS3 hC3 ⊢
  -- the mark
  refine ⟨_, rfl, s.p, _, _, rfl, M3.ob.choose_spec, flds_no _ _ (by decide +kernel) (by decide +kernel), _, rfl, s.p, s.dm, s.dw, s.ms, s.ws, n, rfl, M3, by omega, by omega, I.wm n, fun h => absurd h hnm, fun _ H4 f4 M4 => ⟨true, true, rfl, rfl, _, rfl, iteF ?_⟩⟩
  have hk4 := M3.links f4 hk3 I.lm I.lw
  have hR4 := M3.lst f4 hR3
  have hS4 := M3.lst f4 hS3
  have hC4 := M3.scL f4 hC3
  -- what is seen
  have mem : ∀ x, x ∈ s.names ++ [n] ↔ x ∈ s.names ∨ x = n := fun x => by rw [List.mem_append, List.mem_singleton]
  have hnl2 : (s.names ++ [n]).length ≤ 23 := by rw [List.length_append]; simp; omega
  refine ⟨_, rfl, _, rfl, _, rfl, sz1, fun v nv => ⟨s.L, v, s.names ++ [n], [n], _, rfl, hk4.keep (Same.new nv), SqL.of upd_same, (by show 1 ≤ 60; decide), by omega, fun x hx => Nat.le_trans (hLk.few x hx) (by decide), hLk.cl, fun x hx => ?_, fun r H6 q6 e6 nq6 hq6 hrl hr => ?_⟩⟩
  · rw [List.mem_singleton.mp hx]; exact (mem n).mpr (.inr rfl)
  have e6' := (Same.new nv).trans e6
  have hS6 := e6' _ _ hS4
  have hsl := I.sl
  refine ⟨s.sa, q6, _, _, rfl, rfl, hS6, hq6, (by rw [List.length_map, List.length_map]; exact Nat.le_of_lt (big (by omega))), fun sa' nsa => ?_⟩
  rw [← List.map_append]
  refine ⟨sz2, fun tp2 ntp2 => ⟨tp2, _, rfl, SqT.of upd_same, rfl, _, _, rfl, _, _, rfl, rfl, ?_⟩⟩
  have e7 := (e6'.up nsa (o := .lst ((s.seen ++ r).map V.int))).up ntp2 (o := .tup [.ref sa', .non])
  have hs7 := Same.at ntp2 (o := .tup [.ref sa', .non]) (upd_same (H := H6) (a := sa') (o := .lst ((s.seen ++ r).map V.int)))
  generalize upd (upd H6 sa' (.lst ((s.seen ++ r).map V.int))) tp2 (.tup [.ref sa', .non]) = H7 at e7 hs7 ⊢
  have nbo : ∀ x ∈ s.names, (fun m => if m = n then r1 else s.nb m) x = s.nb x := fun x hx => if_neg fun (z : x = n) => hnn (by rw [← z]; exact hx)
  have hsingle : ∀ x, x ∈ ([n] : List Int) ↔ x = n := fun x => List.mem_singleton
  refine k ⟨s.L, R, s.p, s.dm, s.dw, sa', s.names ++ [n], _, rk', s.roots ++ [n], s.ms ++ [n], s.ws ++ [n], s.seen ++ r, s.af, s.put + 1, s.looks, s.takes, none⟩ H7 _
    { sc := hC4.keep e7, nl := I.nl, ln := hk4.keep e7, lk := hLk, ra := e7 _ _ hR4, rnd := ?_, il := hi, rm := ?_, mks := M4.keep e7, lm := I.lm, lw := I.lw, mnd := ?_, wnd := ?_, wm := ?_, mn := ?_, mc := ?_, sn := hs7, sl := ?_, ms_sn := ?_, sc_cl := ?_, n1 := ?_, n2 := ?_, p0 := ?_, p1 := ?_, t0 := I.t0, a1 := I.a1, rg := ?_, od := fun _ _ z => by cases z }
  · rw [List.nodup_append]
    exact ⟨I.rnd, by simp, fun x hx y hy => by rw [List.mem_singleton.mp hy]; intro z; subst z; exact hnm (I.rm _ hx)⟩
  · intro x hx
    rcases List.mem_append.mp hx with h | h
    · exact List.mem_append_left _ (I.rm x h)
    · exact List.mem_append_right _ h
  · show (s.ms ++ [n]).Nodup
    rw [List.nodup_append]
    exact ⟨I.mnd, by simp, fun x hx y hy => by rw [List.mem_singleton.mp hy]; intro z; subst z; exact hnm hx⟩
  · show (s.ws ++ [n]).Nodup
    rw [List.nodup_append]
    exact ⟨I.wnd, by simp, fun x hx y hy => by rw [List.mem_singleton.mp hy]; intro z; subst z; exact hnw hx⟩
  · intro x hx
    rcases List.mem_append.mp hx with h | h
    · exact List.mem_append_left _ (I.wm x h)
    · exact List.mem_append_right _ h
  · intro x hx
    rcases List.mem_append.mp hx with h | h
    · exact List.mem_append_left _ (I.mn x h)
    · exact List.mem_append_right _ h
  · intro x hx hxw y hy
    rcases List.mem_append.mp hx with h | h
    · have hy' : y ∈ s.nb x := by rw [← nbo x (I.mn x h)]; exact hy
      exact List.mem_append_left _ (I.mc x h (fun z => hxw (List.mem_append_left _ z)) y hy')
    · exact absurd (List.mem_append_right _ h) hxw
  · show (s.seen ++ r).length ≤ 30 * (i + 1 + 1)
    rw [List.length_append]
    omega
  · intro x hx
    rcases List.mem_append.mp hx with h | h
    · exact List.mem_append_left _ (I.ms_sn x h)
    · exact List.mem_append_right _ ((hr x).mpr (.base h))
  · intro x hx hxn y hy
    rcases List.mem_append.mp hx with h | h
    · by_cases e : x = n
      · subst e
        exact List.mem_append_right _ ((hr y).mpr (.step (.base (List.mem_singleton.mpr rfl)) hy))
      · have hxn' : x ∈ s.names := ((mem x).mp hxn).resolve_right e
        have hy' : y ∈ s.nb x := by rw [← nbo x hxn']; exact hy
        exact List.mem_append_left _ (I.sc_cl x h hxn' y hy')
    · exact List.mem_append_right _ ((hr y).mpr (.step ((hr x).mp h) hy))
  · show ((s.names ++ [n]).length : Int) = s.af + (s.put + 1) - s.takes
    have := I.n1
    rw [List.length_append]
    simp only [List.length_cons, List.length_nil]
    omega
  · show s.looks = ((s.ms ++ [n]).length : Int) - ((s.ws ++ [n]).length : Int)
    have := I.n2
    rw [List.length_append, List.length_append]
    omega
  · show 0 ≤ s.put + 1
    have := I.p0
    omega
  · show s.put + 1 ≤ 12
    omega
  · intro x hx
    rcases (mem x).mp hx with h | h
    · exact (I.rg x h).imp id fun z => ⟨z.1, by omega⟩
    · right; omega
end
end K52
namespace K52
open PySem L2
/-- the turn's box stands apart -/
structure Bx (b : Addr) (s : Stt) (H : Hp) : Prop where
  bx : BoxAt H b
  nra : s.ra ≠ b
  nsa : s.sa ≠ b
  noa : ∀ oa ord, s.ord = some (oa, ord) → oa ≠ b
theorem Bx.keep {b : Addr} {s : Stt} {H H' : Hp} (B : Bx b s H) (e : Same H H') : Bx b s H' := { B with bx := by obtain ⟨g, r, h⟩ := B.bx; exact ⟨g, r, e _ _ h⟩ }
theorem Bx.bo {b : Addr} {s : Stt} {H H' : Hp} (B : Bx b s H) (h : BoxAt H' b) : Bx b s H' := { B with bx := h }
theorem LI.fr {K : PySem.W.Frag} {C a b : Addr} {ns : List Int} {i : Nat} {s : Stt} {H H' : Hp} (I : LI K C a ns i s H) (B : Bx b s H) (f : Fr b H H') : LI K C a ns i s H' := by
  obtain ⟨g, r, hb⟩ := B.bx
  refine { I with sc := ?_, ln := I.ln.fr f B.bx, ra := f _ _ I.ra B.nra, mks := ⟨I.mks.ob.imp fun dx h => f _ _ h (ne_of h hb (by intro z; cases z)), f _ _ I.mks.m (ne_of I.mks.m hb (by intro z; cases z)), f _ _ I.mks.w (ne_of I.mks.w hb (by intro z; cases z)), I.mks.ne⟩, sn := f _ _ I.sn B.nsa, od := fun oa ord z => ⟨f _ _ (I.od oa ord z).1 (B.noa oa ord z), (I.od oa ord z).2⟩ }
  exact I.sc.by fun u q => f _ _ q (ne_of q hb (by intro z; cases z))
theorem LI.dict {K : PySem.W.Frag} {C a : Addr} {ns : List Int} {i : Nat} {s : Stt} {H : Hp} (I : LI K C a ns i s H) : ∃ ps : List (Int × V), H s.L = some (.dK (ikv ps)) ∧ ps.map (·.1) = s.names ∧ (ikv ps).map (·.1) = s.names.map Sum.inl ∧ (ikv ps = [] ↔ s.names = []) := by
  obtain ⟨ps, h1, h2, _⟩ := I.ln.d
  refine ⟨ps, h1, h2, ?_, ?_⟩
  · rw [← h2]
    unfold ikv
    rw [List.map_map, List.map_map]
    rfl
  · rw [← h2, ikv_nil, List.map_eq_nil_iff]
section
variable {P : Program} {w : World} {K : PySem.W.Frag} {mg : Str → Option Value} {base : Heap} {f : Addr} {cdv : Value} {A : Around} {outer : List Env} {s0 : Shared} {H0 : Hp} {E : XK}
theorem law_put (T : Top P K mg) (hr : Room 4 (XL P w K mg base f cdv A outer s0 H0 E).A) :
    ∃ t, PSs (XL P w K mg base f cdv A outer s0 H0 E) (ifB chain) t ∧ ∀ (D : Ends) (a b : Addr) (ns : List Int) (i : Nat) (s : Stt) (x3 x13 x14 x15 : Option V) (H : Hp), LI K T.C a ns i s H → Bx b s H → i + 1 ≤ 100 → s.put < 12 →
      (∀ s' H' x3' x14', LI K T.C a ns (i + 1) s' H' → D.nx (SL a b s' x3' (some (.int ((1 : Int) + i))) x13 x14' x15) H') → t D (SL a b s x3 (some (.int ((1 : Int) + i))) x13 x14 x15) H := by
  have GT : FnOk P w K mg base CX0 1 T.tk.f T.tk.fd ["box", "many"] spTake := ok_take T.tk.F T.B
  have GP : FnOk P w K mg base CX0 2 T.pk.f T.pk.fd ["box", "some"] (spPick K) := ok_pick T.pk.F T.B T.tk.m T.tk.k T.tk.F T.tk.b
  have hu := hu_of hr
  have hr1 : Room 1 (XL P w K mg base f cdv A outer s0 H0 E).A := hr.mono (by decide)
  have hr2 : Room 2 (XL P w K mg base f cdv A outer s0 H0 E).A := hr.mono (by decide)
  obtain ⟨t2, ht2, hq2⟩ := law_put2 (w := w) (base := base) (f := f) (cdv := cdv) (outer := outer) (s0 := s0) (H0 := H0) (E := E) T hr
  refine ⟨_, pss_cons (ps_asg (pe_tup (pa_cons (pe_op op_add pe_int (pv 12)) (pa_cons (pe_ifExp (pt_cmpR (op_neD0 hr.units0) (pv 2) pe_dnewK (nomark _))
      (pe_lc (own := [("link", 16)]) (g := gName 16) (by rfl) scL.nd (i_range T.B (pe_call GT hr1 (by rfl) T.tk.m T.tk.k T.tk.b .nil pass0 (pa_cons (pv 1) (pa_cons pe_int pa_nil)))) (blkOk_by (own := [("link", 16)]) (N := nL) (sc := defScope sLaw) (by decide +kernel)) (fun _ _ _ _ _ => pg_name (i := 16) scL.nd rfl (Or.inl rfl))
        (fun _ _ _ _ _ => pts_nil) (fun _ _ _ _ _ => pe_call GP hr2 (by rfl) T.pk.m T.pk.k T.pk.b .nil pass0 (pa_cons (pv 1) (pa_cons (c_sortedD rfl T.B (pv 2)) pa_nil))))
      (pe_lst pa_nil)) pa_nil)))
      (pg_tup (by rfl) (pgs_cons (pg_name (i := 3) scL.nd rfl (.inr rfl)) (pgs_cons (pg_name (i := 14) scL.nd rfl (.inl rfl)) pgs_nil)))) ht2, ?_⟩
  intro D a b ns i s x3 x13 x14 x15 H I B hi hp k
  have fin : ∀ (H' : Hp) (D0 tp : Addr) (acc : List Int), LI K T.C a ns i s H' → H' D0 = some (.lst (acc.map V.int)) → acc.length ≤ 3 → (∀ x ∈ acc, x ∈ s.names) → t2 D (SL a b s (some (.int (3000 + ((1 : Int) + i)))) (some (.int ((1 : Int) + i))) x13 (some (.ref D0)) x15) H' :=
    fun H' D0 tp acc I' h1 h2 h3 => hq2 D a b D0 ns acc i s _ x13 x15 H' I' hi hp h1 h2 h3 fun s' H'' x14' I'' => k s' H'' _ x14' I''
  obtain ⟨ps, hL, hps, hks, hnil⟩ := I.dict
  have hnl := I.nlen
  refine ⟨_, rfl, _, _, rfl, rfl, _, rfl, fun e ne => ⟨s.L, e, _, rfl, rfl, Same.at ne hL, upd_same, _, rfl, ?_⟩⟩
  have I1 := I.keep (Same.new ne (o := .dK []))
  have B1 := B.keep (Same.new ne (o := .dK []))
  by_cases hne : s.names = []
  · rw [show (if true = true then !decide (ikv ps = []) else decide (ikv ps = [])) = false by rw [if_pos rfl, decide_eq_true (hnil.mpr hne)]; rfl]
    refine iteF ⟨by decide, fun D0 nD0 => ⟨sz2, fun tp ntp => ⟨tp, _, rfl, SqT.of upd_same, rfl, _, _, rfl, _, _, rfl, rfl, ?_⟩⟩⟩
    exact fin _ D0 tp [] ((I1.keep (Same.new nD0)).keep (Same.new ntp)) (Same.at ntp upd_same) (by decide) (fun x hx => by cases hx)
  · rw [show (if true = true then !decide (ikv ps = []) else decide (ikv ps = [])) = true by rw [if_pos rfl, decide_eq_false (fun z => hne (hnil.mp z))]; rfl]
    refine iteT ?_
    refine ⟨_, rfl, b, 3, rfl, B1.bx, by decide, by decide, fun d H2 d0 d1 f2 b2 => ⟨_, rfl, by omega, by omega, fun D0 nD0 => ?_⟩⟩
    have I2 := I1.fr B1 f2
    have B2 := B1.bo b2
    have hDb := b2.ne nD0
    refine lc_range (lo := 0) (n := d.toNat) (fun j H' => Fr b H2 H' ∧ BoxAt H' b ∧ ∃ acc : List Int, H' D0 = some (.lst (acc.map V.int)) ∧ acc.length = j ∧ ∀ x ∈ acc, x ∈ s.names) ⟨Fr.of (Same.new nD0), b2.up hDb, [], upd_same, rfl, fun x hx => by cases hx⟩ ?_ ?_
    · rintro j H3 hj ⟨f3, b3, acc, hD3, hal, hac⟩
      have I3 := I2.fr B2 f3
      obtain ⟨ps3, hL3, hps3, hks3, hnil3⟩ := I3.dict
      refine ⟨rfl, _, rfl, _, rfl, s.L, _, s.names, rfl, Rd.of hL3, hks3, by omega, fun ys q pm _ nq => ?_⟩
      have I4 := I3.keep (Same.new nq (o := .lst (ys.map V.int)))
      have B4 := (B.bo b3).keep (Same.new nq (o := .lst (ys.map V.int)))
      have hqb := b3.ne nq
      refine ⟨b, q, _, rfl, B4.bx, SqL.of upd_same, hqb, (fun z => hne (by have := List.map_eq_nil_iff.mp z; rw [this] at pm; exact pm.nil_eq.symm)), by rw [List.length_map, pm.length_eq]; omega, fun v H5 hv f5 b5 => ?_⟩
      obtain ⟨x, hx, rfl⟩ := List.mem_map.mp hv
      have I5 := I4.fr B4 f5
      have hD5 := f5 _ _ (Same.at nq hD3) hDb
      have keepL : Fr b H2 (upd H5 D0 (.lst (acc.map V.int ++ [V.int x]))) := ((f3.trans (Fr.of (Same.new nq (o := .lst (ys.map V.int))))).trans f5).put nD0
      refine ⟨_, hD5, big (by rw [List.length_map]; omega), keepL, b5.up hDb, acc ++ [x], by rw [upd_same, List.map_append]; rfl, by rw [List.length_append, hal]; rfl, fun y hy => ?_⟩
      rcases List.mem_append.mp hy with hy | hy
      · exact hac y hy
      · rw [List.mem_singleton.mp hy]; exact pm.mem_iff.mp hx
    · rintro H3 ⟨f3, b3, acc, hD3, hal, hac⟩
      have I3 := I2.fr B2 f3
      refine ⟨sz2, fun tp ntp => ⟨tp, _, rfl, SqT.of upd_same, rfl, _, _, rfl, _, _, rfl, rfl, ?_⟩⟩
      exact fin _ D0 tp acc (I3.keep (Same.new ntp)) (Same.at ntp hD3) (by omega) hac
end
end K52
namespace K52
open PySem L2
section
variable {P : Program} {w : World} {K : PySem.W.Frag} {mg : Str → Option Value} {base : Heap} {f : Addr} {cdv : Value} {A : Around} {outer : List Env} {s0 : Shared} {H0 : Hp} {E : XK}
theorem shownB (b : Bool) : (PyData.bool b).shown.length ≤ sizeLine := by cases b <;> decide +kernel
theorem law_roots (T : Top P K mg) (hG : (XL P w K mg base f cdv A outer s0 H0 E).A.guards = some []) (hr : Room 4 (XL P w K mg base f cdv A outer s0 H0 E).A) :
    ∃ t, PSs (XL P w K mg base f cdv A outer s0 H0 E) (ifB (hd (ifE chain))) t ∧ ∀ (D : Ends) (a b : Addr) (ns : List Int) (i : Nat) (s : Stt) (x3 x12 x13 x14 x15 : Option V) (H : Hp), LI K T.C a ns i s H → Bx b s H → i + 1 ≤ 100 → s.names ≠ [] →
      (∀ s' H' x3' x15', LI K T.C a ns (i + 1) s' H' → D.nx (SL a b s' x3' x12 x13 x14 x15') H') → t D (SL a b s x3 x12 x13 x14 x15) H := by
  have GP : FnOk P w K mg base CX0 2 T.pk.f T.pk.fd ["box", "some"] (spPick K) := ok_pick T.pk.F T.B T.tk.m T.tk.k T.tk.F T.tk.b
  have GR : FnOk P w K mg base CX0 1 T.rd.f T.rd.fd ["links", "starts"] (spReached K) := ok_reached T.rd.F T.B
  have GS : FnOk P w K mg base CX0 1 T.fS T.dS ["self", "name"] (spShade T.C) := ok_shade T.FS T.T
  have hu := hu_of hr
  have hr1 : Room 1 (XL P w K mg base f cdv A outer s0 H0 E).A := hr.mono (by decide)
  have hr2 : Room 2 (XL P w K mg base f cdv A outer s0 H0 E).A := hr.mono (by decide)
  refine ⟨_, pss_cons (ps_set (i := 3) scL.nd rfl (.inr rfl) (pe_call GP hr2 (by rfl) T.pk.m T.pk.k T.pk.b .nil pass0 (pa_cons (pv 1) (pa_cons (c_sortedD rfl T.B (pv 2)) pa_nil))))
    (pss_one (ps_if (pt_cmpR op_in_seq (pv 3) (pv 4) (by rfl))
      (pss_one (ps_setLc (i := 4) (own := [("one", 17)]) (g := gName 17) (by rfl) scL.nd rfl rfl (sw_true rfl rfl rfl (by decide +kernel)) (pi_list (pv 4)) (blkOk_by (own := [("one", 17)]) (N := nL) (sc := defScope sLaw) (by decide +kernel)) (fun _ _ _ _ _ => pg_name (i := 17) scL.nd rfl (Or.inl rfl))
          (fun _ _ _ _ _ => pts_one (pt_cmpR op_ne (pv 17) (pv 3) (nomark _))) (fun _ _ _ _ _ => pv 17)))
      (pss_cons (ps_par (i := 15) (j := 4) (by rfl) scL.nd rfl rfl (by decide) rfl rfl (pa_cons (pe_cmp (pc_dnotin hu (pv 3) (pe_fld (pv 5) rfl)) rfl) (pa_cons (pe_op op_cat (pv 4) (pe_lst (pa_cons (pv 3) pa_nil))) pa_nil)) (by rfl))
      (pss_cons (ps_if (pt_cmpR op_ne (c_repr hG hr T.B (pe_meth (pv 5) T.T.cl T.mS GS hr1 T.bS .nil pass0 (pa_cons (pv 3) pa_nil))) (c_repr hG hr T.B (pv 15)) (nomark _)) (pss_one (ps_ret pe_bl)) pss_nil)
      (pss_one (ps_asg (pe_tup (pa_cons (pe_op op_cat (pv 6) (pe_call GR hr1 (by rfl) T.rd.m T.rd.k T.rd.b .nil pass0 (pa_cons (pv 2) (pa_cons (pe_lst (pa_cons (pv 3) pa_nil)) pa_nil)))) (pa_cons (pe_ifExp (pt_val (pv 15)) pe_non (pv 11)) pa_nil)))
        (pg_tup (by rfl) (pgs_cons (pg_name (i := 6) scL.nd rfl (.inr rfl)) (pgs_cons (pg_name (i := 11) scL.nd rfl (.inl rfl)) pgs_nil))))))))), ?_⟩
  intro D a b ns i s x3 x12 x13 x14 x15 H I B hi hne k
  have hnl := I.nlen
  have hrl := I.rlen
  have hml := I.mlen
  have hwl := I.wlen
  obtain ⟨ps, hL, hps, hks, hnil⟩ := I.dict
  refine ⟨_, rfl, _, rfl, s.L, _, s.names, rfl, Rd.of hL, hks, by omega, fun ys q pm _ nq => ?_⟩
  have I1 := I.keep (Same.new nq (o := .lst (ys.map V.int)))
  have B1 := B.keep (Same.new nq (o := .lst (ys.map V.int)))
  refine ⟨b, q, _, rfl, B1.bx, SqL.of upd_same, B.bx.ne nq, (fun z => hne (by have := List.map_eq_nil_iff.mp z; rw [this] at pm; exact pm.nil_eq.symm)), by rw [List.length_map, pm.length_eq]; omega, fun v H2 hv f2 b2 => ?_⟩
  obtain ⟨n, hn, rfl⟩ := List.mem_map.mp hv
  have hnn : n ∈ s.names := pm.mem_iff.mp hn
  have I2 := I1.fr B1 f2
  clear I1 B1 f2 b2 hv pm
  refine ⟨_, rfl, _, rfl, s.ra, _, rfl, .inl (SqL.of I2.ra), rfl, flat_ints s.roots, _, rfl, ?_⟩
  rw [inV_ints]
  by_cases hnr : n ∈ s.roots
  · rw [decide_eq_true hnr]
    refine iteT ?_
    refine ⟨_, rfl, s.ra, rfl, ⟨_, SqL.of I2.ra⟩, fun R nR => ?_⟩
    refine lcF (walkI_list (K := K) (a := s.ra) (ns := s.roots)) (fun x => decide (x ≠ n)) V.int nR (big (by omega)) (fun H' e => SqL.of (e _ _ I2.ra)) ?_ ?_
    · intro x H' acc N hx e hD hacc kt kf
      refine ⟨rfl, _, rfl, _, rfl, rfl, _, rfl, ?_⟩
      by_cases hxn : x = n
      · rw [decide_eq_true (by rw [hxn] : V.int x = V.int n)]
        exact iteF (kf (by simp [hxn]) _ (Same.refl _))
      · rw [decide_eq_false (fun z => hxn (by injection z))]
        exact iteT ⟨_, rfl, _, hD, hacc, kt (by simp [hxn]) _ (Same.refl _)⟩
    · intro H3 e3 hR3
      have I3 := (I2.keep e3).more (Nat.le_succ i) hi
      refine k { s with ra := R, roots := s.roots.filter fun x => decide (x ≠ n) } H3 _ _ { I3 with ra := hR3, rnd := I3.rnd.filter _, rm := fun x hx => I3.rm x (List.mem_filter.mp hx).1, od := fun oa ord z => ?_ }
      obtain ⟨h1, h2, h3⟩ := I3.od oa ord z
      refine ⟨h1, fun e => ?_, h3⟩
      have h0 := (I2.od oa ord z).1
      rw [e, nR] at h0
      cases h0
  · rw [decide_eq_false hnr]
    refine iteF ?_
    have hob := I2.mks.ob
    obtain ⟨dx, hob⟩ := hob
    refine ⟨_, rfl, _, rfl, s.p, T.C, dx, _, _, rfl, hob, T.T.cl, T.T.nM, flds_m _ _, s.dm, _, rfl, DGet.k (k := Sum.inl n) I2.mks.m, ?_⟩
    rw [valV_IK]
    refine ⟨_, rfl, _, rfl, sz1, fun u nu => ?_⟩
    refine ⟨s.ra, u, _, _, rfl, rfl, Same.at nu I2.ra, upd_same, (by rw [List.length_map]; exact Nat.le_of_lt (big (by simp; omega))), fun R nR => ?_⟩
    have er : s.roots.map V.int ++ [V.int n] = (s.roots ++ [n]).map V.int := by rw [List.map_append]; rfl
    rw [er]
    obtain ⟨H3, e3⟩ : ∃ X, X = upd (upd H2 u (.lst [.int n])) R (.lst ((s.roots ++ [n]).map V.int)) := ⟨_, rfl⟩
    rw [← e3]
    have f3 : Same H2 H3 := by rw [e3]; exact ((Same.refl H2).up nu).up nR
    have hR3 : H3 R = some (.lst ((s.roots ++ [n]).map V.int)) := by rw [e3, upd_same]
    have nRu : R ≠ u := fun z => by rw [z, upd_same] at nR; cases nR
    have nR2 : H2 R = none := by rwa [upd_ne nRu] at nR
    have I3 := I2.keep f3
    have hRo : ∀ oa ord, s.ord = some (oa, ord) → oa ≠ R := fun oa ord z e => by
      have h0 := (I2.od oa ord z).1
      rw [e, nR2] at h0
      cases h0
    have rnd' : (s.roots ++ [n]).Nodup := by
      rw [List.nodup_append]
      exact ⟨I.rnd, by simp, fun x hx y hy => by rw [List.mem_singleton.mp hy]; intro z; subst z; exact hnr hx⟩
    refine ⟨_, _, rfl, ?_⟩
    -- what follows the mark: what is seen
    have hsl := I.sl
    by_cases hnm : n ∈ s.ms
    · rw [if_pos hnm]
      refine ⟨_, rfl, s.p, _, _, rfl, I3.mks.ob.choose_spec, flds_no _ _ (by decide +kernel) (by decide +kernel), _, rfl, s.p, s.dm, s.dw, s.ms, s.ws, n, rfl, I3.mks, by omega, by omega, I.wm n, fun _ => ?_, fun h => absurd hnm h⟩
      refine ⟨_, .bool false, rfl, .bl false, rfl, rfl, by decide, shownB false, _, rfl, _, .bool false, rfl, .bl false, rfl, rfl, by decide, shownB false, rfl, _, rfl, ?_⟩
      refine iteNS rfl ?_
      refine ⟨_, rfl, _, rfl, _, rfl, sz1, fun v nv => ⟨s.L, v, s.names, [n], s.nb, rfl, I3.ln.keep (Same.new nv), SqL.of upd_same, (by show 1 ≤ 60; decide), by omega, I.few, I.lk.cl, fun x hx => (by rw [List.mem_singleton.mp hx]; exact hnn), fun r H6 q6 e6 nq6 hq6 hrl' hr' => ?_⟩⟩
      have e6' := (Same.new nv).trans e6
      refine ⟨s.sa, q6, _, _, rfl, rfl, e6' _ _ I3.sn, hq6, (by rw [List.length_map, List.length_map]; exact Nat.le_of_lt (big (by have := I.il; omega))), fun sa' nsa => ?_⟩
      rw [← List.map_append]
      refine ⟨_, rfl, _, rfl, iteF ⟨_, rfl, sz2, fun tp2 ntp2 => ⟨tp2, _, rfl, SqT.of upd_same, rfl, _, _, rfl, _, _, rfl, rfl, ?_⟩⟩⟩
      have e7 := (e6'.up nsa (o := .lst ((s.seen ++ r).map V.int))).up ntp2 (o := .tup [.ref sa', ordV s.ord])
      have hs7 := Same.at ntp2 (o := .tup [.ref sa', ordV s.ord]) (upd_same (H := H6) (a := sa') (o := .lst ((s.seen ++ r).map V.int)))
      generalize upd (upd H6 sa' (.lst ((s.seen ++ r).map V.int))) tp2 (.tup [.ref sa', ordV s.ord]) = H7 at e7 hs7 ⊢
      have I7 := (I3.keep e7).more (Nat.le_succ i) hi
      have nsa3 : H3 sa' = none := by
        cases z : H3 sa' with
        | none => rfl
        | some o => rw [e6' _ _ z] at nsa; cases nsa
      refine k { s with ra := R, roots := s.roots ++ [n], sa := sa', seen := s.seen ++ r } H7 _ _ { I7 with ra := e7 _ _ hR3, rnd := rnd', rm := ?_, sn := hs7, sl := ?_, ms_sn := fun x hx => List.mem_append_left _ (I7.ms_sn x hx), sc_cl := ?_, od := ?_ }
      · intro x hx
        rcases List.mem_append.mp hx with h | h
        · exact I.rm x h
        · rw [List.mem_singleton.mp h]; exact hnm
      · show (s.seen ++ r).length ≤ 30 * (i + 1 + 1)
        rw [List.length_append]; omega
      · intro x hx hxn y hy
        rcases List.mem_append.mp hx with h | h
        · exact List.mem_append_left _ (I7.sc_cl x h hxn y hy)
        · exact List.mem_append_right _ ((hr' y).mpr (.step ((hr' x).mp h) hy))
      · intro oa ord z
        obtain ⟨h1, h2, h3, h4⟩ := I7.od oa ord z
        refine ⟨h1, hRo oa ord z, fun e => ?_, h4⟩
        have h0 := (I3.od oa ord z).1
        rw [e, nsa3] at h0
        cases h0
    · rw [if_neg hnm]
      have hnw : n ∉ s.ws := fun h => hnm (I.wm n h)
      refine ⟨_, rfl, s.p, _, _, rfl, I3.mks.ob.choose_spec, flds_no _ _ (by decide +kernel) (by decide +kernel), _, rfl, s.p, s.dm, s.dw, s.ms, s.ws, n, rfl, I3.mks, by omega, by omega, I.wm n, fun h => absurd h hnm, fun _ H4 f4 M4 => ?_⟩
      refine ⟨_, .bool true, rfl, .bl true, rfl, rfl, by decide, shownB true, _, rfl, _, .bool true, rfl, .bl true, rfl, rfl, by decide, shownB true, rfl, _, rfl, ?_⟩
      refine iteNS rfl ?_
      have hk4 := I3.mks.links f4 I3.ln I.lm I.lw
      have hR4 := I3.mks.lst f4 hR3
      have hS4 := I3.mks.lst f4 I3.sn
      have hC4 := I3.mks.scL f4 I3.sc
      refine ⟨_, rfl, _, rfl, _, rfl, sz1, fun v nv => ⟨s.L, v, s.names, [n], s.nb, rfl, hk4.keep (Same.new nv), SqL.of upd_same, (by show 1 ≤ 60; decide), by omega, I.few, I.lk.cl, fun x hx => (by rw [List.mem_singleton.mp hx]; exact hnn), fun r H6 q6 e6 nq6 hq6 hrl' hr' => ?_⟩⟩
      have e6' := (Same.new nv).trans e6
      refine ⟨s.sa, q6, _, _, rfl, rfl, e6' _ _ hS4, hq6, (by rw [List.length_map, List.length_map]; exact Nat.le_of_lt (big (by have := I.il; omega))), fun sa' nsa => ?_⟩
      rw [← List.map_append]
      refine ⟨_, rfl, _, rfl, iteT ⟨sz2, fun tp2 ntp2 => ⟨tp2, _, rfl, SqT.of upd_same, rfl, _, _, rfl, _, _, rfl, rfl, ?_⟩⟩⟩
      have e7 := (e6'.up nsa (o := .lst ((s.seen ++ r).map V.int))).up ntp2 (o := .tup [.ref sa', .non])
      have hs7 := Same.at ntp2 (o := .tup [.ref sa', .non]) (upd_same (H := H6) (a := sa') (o := .lst ((s.seen ++ r).map V.int)))
      generalize upd (upd H6 sa' (.lst ((s.seen ++ r).map V.int))) tp2 (.tup [.ref sa', .non]) = H7 at e7 hs7 ⊢
      refine k { s with ra := R, roots := s.roots ++ [n], ms := s.ms ++ [n], ws := s.ws ++ [n], sa := sa', seen := s.seen ++ r, ord := none } H7 _ _
        { sc := hC4.keep e7, nl := I.nl, ln := hk4.keep e7, lk := I.lk, ra := e7 _ _ hR4, rnd := rnd', il := hi, rm := ?_, mks := M4.keep e7, lm := I.lm, lw := I.lw, mnd := ?_, wnd := ?_, wm := ?_, mn := ?_, mc := ?_, sn := hs7, sl := ?_, ms_sn := ?_, sc_cl := ?_, n1 := I.n1, n2 := ?_, p0 := I.p0, p1 := I.p1, t0 := I.t0, a1 := I.a1, rg := fun x hx => (I.rg x hx).imp id fun z => ⟨z.1, by omega⟩, od := fun _ _ z => by cases z }
      · intro x hx
        rcases List.mem_append.mp hx with h | h
        · exact List.mem_append_left _ (I.rm x h)
        · exact List.mem_append_right _ h
      · show (s.ms ++ [n]).Nodup
        rw [List.nodup_append]
        exact ⟨I.mnd, by simp, fun x hx y hy => by rw [List.mem_singleton.mp hy]; intro z; subst z; exact hnm hx⟩
      · show (s.ws ++ [n]).Nodup
        rw [List.nodup_append]
        exact ⟨I.wnd, by simp, fun x hx y hy => by rw [List.mem_singleton.mp hy]; intro z; subst z; exact hnw hx⟩
      · intro x hx
        rcases List.mem_append.mp hx with h | h
        · exact List.mem_append_left _ (I.wm x h)
        · exact List.mem_append_right _ h
      · intro x hx
        rcases List.mem_append.mp hx with h | h
        · exact I.mn x h
        · rw [List.mem_singleton.mp h]; exact hnn
      · intro x hx hxw y hy
        rcases List.mem_append.mp hx with h | h
        · exact List.mem_append_left _ (I.mc x h (fun z => hxw (List.mem_append_left _ z)) y hy)
        · exact absurd (List.mem_append_right _ h) hxw
      · show (s.seen ++ r).length ≤ 30 * (i + 1 + 1)
        rw [List.length_append]; omega
      · intro x hx
        rcases List.mem_append.mp hx with h | h
        · exact List.mem_append_left _ (I.ms_sn x h)
        · exact List.mem_append_right _ ((hr' x).mpr (.base h))
      · intro x hx hxn y hy
        rcases List.mem_append.mp hx with h | h
        · exact List.mem_append_left _ (I.sc_cl x h hxn y hy)
        · exact List.mem_append_right _ ((hr' y).mpr (.step ((hr' x).mp h) hy))
      · show s.looks = ((s.ms ++ [n]).length : Int) - ((s.ws ++ [n]).length : Int)
        have := I.n2
        rw [List.length_append, List.length_append]
        omega
end
end K52
namespace K52
open PySem L2
section
variable {P : Program} {w : World} {K : PySem.W.Frag} {mg : Str → Option Value} {base : Heap} {f : Addr} {cdv : Value} {A : Around} {outer : List Env} {s0 : Shared} {H0 : Hp} {E : XK}
theorem law_look (T : Top P K mg) (hG : (XL P w K mg base f cdv A outer s0 H0 E).A.guards = some []) (hr : Room 4 (XL P w K mg base f cdv A outer s0 H0 E).A) :
    ∃ t, PSs (XL P w K mg base f cdv A outer s0 H0 E) (ifB (hd (ifE (hd (ifE chain))))) t ∧ ∀ (D : Ends) (a b : Addr) (ns : List Int) (i : Nat) (s : Stt) (x3 x12 x13 x14 x15 : Option V) (H : Hp), LI K T.C a ns i s H → i + 1 ≤ 100 → s.ws ≠ [] →
      (∀ s' H' x3' x15', LI K T.C a ns (i + 1) s' H' → D.nx (SL a b s' x3' x12 x13 x14 x15') H') → t D (SL a b s x3 x12 x13 x14 x15) H := by
  have GF : FnOk P w K mg base CX0 1 T.fF T.dF ["self"] (spFirst T.C) := ok_first T.FF T.T T.B
  have GL : FnOk P w K mg base (L2.CX P w) 3 T.fL T.dL ["self", "name", "links"] (spLook T.C T.CR K) := ok_look T.FL T.T T.B T.FS T.bS T.mS T.R
  have hu := hu_of hr
  have hr1 : Room 1 (XL P w K mg base f cdv A outer s0 H0 E).A := hr.mono (by decide)
  have hr3 : Room 3 (XL P w K mg base f cdv A outer s0 H0 E).A := hr.mono (by decide)
  refine ⟨_, pss_cons (ps_set (i := 3) scL.nd rfl (.inr rfl) (pe_meth0 (pv 5) T.T.cl T.mF GF hr1 T.bF .nil pass0))
    (pss_cons (ps_set (i := 15) scL.nd rfl (.inl rfl) (c_tuple T.B (pe_lc (own := [("link", 16)]) (g := gName 16) (by rfl) scL.nd (pi_tup (pe_dget hu (pv 2) (pv 3) (fun _ _ => rfl))) (blkOk_by (own := [("link", 16)]) (N := nL) (sc := defScope sLaw) (by decide +kernel)) (fun _ _ _ _ _ => pg_name (i := 16) scL.nd rfl (Or.inl rfl))
        (fun _ _ _ _ _ => pts_one (pt_cmp (pc_dnotin hu (pv 16) (pe_fldK (K := K) rfl (pv 5) rfl)))) (fun _ _ _ _ _ => pv 16))))
    (pss_cons (ps_if (PW.pt (pw_or (pt_cmpR op_ne (pv 3) (c_minK rfl T.B (pe_fld (pv 5) rfl)) (nomark _))
        (pw_or1 (pt_cmpR op_ne (c_repr hG hr T.B (pe_meth (pv 5) T.T.cl T.mL GL hr3 T.bL .nil passX0 (pa_cons (pv 3) (pa_cons (pe_dget hu (pv 2) (pv 3) (fun _ _ => rfl)) pa_nil)))) (c_repr hG hr T.B (pv 15)) (nomark _))))) (pss_one (ps_ret pe_bl)) pss_nil)
    (pss_one (ps_set (i := 9) scL.nd rfl (.inl rfl) (pe_op op_add (pv 9) pe_int))))), ?_⟩
  intro D a b ns i s x3 x12 x13 x14 x15 H I hi hne k
  have hnl := I.nlen
  have hml := I.mlen
  have hwl := I.wlen
  obtain ⟨dx, hob⟩ := I.mks.ob
  refine ⟨_, rfl, s.p, dx, _, rfl, hob, flds_no _ _ (by decide +kernel) (by decide +kernel), s.p, s.dm, s.dw, s.ms, s.ws, rfl, I.mks, fun z => absurd z hne, fun n hnw hle => ?_⟩
  have hnm := I.wm n hnw
  have hnn := I.mn n hnm
  have hnd := I.lk.nds n hnn
  have hfew := I.few n hnn
  obtain ⟨t, ht0, hts⟩ := I.ln.getS hnn
  -- due
  refine ⟨_, rfl, _, rfl, s.L, _, rfl, ht0 _ (Same.refl _), t, rfl, ⟨_, hts⟩, fun D1 nD1 => ?_⟩
  refine lcF (walkI_tup (K := K) (a := t) (ns := s.nb n)) (fun x => decide (x ∉ s.ms)) V.int nD1 (big (by omega)) (fun H' e => e.seqT hts) ?_ ?_
  · intro x H' acc N hx e hD hacc kt kf
    have M' := I.mks.keep e
    obtain ⟨dx', hob'⟩ := M'.ob
    refine ⟨rfl, _, rfl, _, rfl, s.p, T.C, dx', _, _, rfl, hob', T.T.cl, T.T.nM, flds_m _ _, s.dm, _, rfl, DGet.k (k := Sum.inl x) M'.m, _, rfl, ?_⟩
    rw [valV_IK]
    by_cases hxm : x ∈ s.ms
    · rw [if_pos hxm]
      exact iteF (kf (by simp [hxm]) _ (Same.refl _))
    · rw [if_neg hxm]
      exact iteT ⟨_, rfl, _, hD, hacc, kt (by simp [hxm]) _ (Same.refl _)⟩
  intro H2 e2 hD2
  refine ⟨D1, _, rfl, .inl ⟨SqL.of hD2, fun du ndu => ?_⟩⟩
  have e3 := e2.up (o := .tup (((s.nb n).filter fun x => decide (x ∉ s.ms)).map V.int)) ndu
  have hdu : (upd H2 du (.tup (((s.nb n).filter fun x => decide (x ∉ s.ms)).map V.int))) du = some (.tup ((newOf s.ms (s.nb n)).map V.int)) := upd_same
  generalize upd H2 du (.tup (((s.nb n).filter fun x => decide (x ∉ s.ms)).map V.int)) = H3 at e3 hdu ⊢
  have I3 := I.keep e3
  obtain ⟨dx3, hob3⟩ := I3.mks.ob
  -- name != min(marks.waiting)
  refine ⟨_, rfl, _, rfl, s.p, T.C, dx3, _, _, rfl, hob3, T.T.cl, T.T.nW, flds_w _ _, s.dw, _, s.ws, rfl, I3.mks.w, IK_fst _, hne, fun m hmw hmle => ⟨rfl, _, rfl, ?_⟩⟩
  have hmn : m = n := by
    have h1 := hle m hmw
    have h2 := hmle n hnw
    omega
  rw [decide_eq_true (by rw [hmn] : V.int n = V.int m)]
  refine iteF ?_
  -- the look
  have hnew : ∀ x ∈ newOf s.ms (s.nb n), x ∈ s.nb n ∧ x ∉ s.ms := fun x hx => by
    have := List.mem_filter.mp hx
    exact ⟨this.1, of_decide_eq_true this.2⟩
  have hsm : ∀ x ∈ newOf s.ms (s.nb n), x.natAbs < 10 ^ 12 := fun x hx => by
    have := I.rg x (I.lk.cl n hnn x (hnew x hx).1)
    have := I.il
    have e12 : (10 : Nat) ^ 12 = 1000000000000 := by decide
    omega
  have hnwl : (newOf s.ms (s.nb n)).length ≤ (s.nb n).length := List.length_filter_le _ _
  obtain ⟨p1, p2, p3, p4⟩ := repr_tupI hsm (by omega)
  refine ⟨_, rfl, s.p, dx3, _, rfl, hob3, flds_no _ _ (by decide +kernel) (by decide +kernel), _, rfl, _, rfl, _, rfl, s.L, _, rfl, ht0 _ e3, s.p, s.dm, s.dw, t, s.ms, s.ws, s.nb n, n, rfl, I3.mks, by omega, by omega, by omega, e3.seqT hts, hnd, I.wm, fun _ H4 q f4 M4 nq hq => ?_, fun h => absurd hnw h⟩
  refine ⟨_, .tuple (dInts (newOf s.ms (s.nb n))), rfl, .tup (SqT.of hq) (dp_ints _), p1, p2, p3, p4, _, rfl, _, .tuple (dInts (newOf s.ms (s.nb n))), rfl, .tup (I3.mks.seqT f4 (SqT.of hdu)) (dp_ints _), p1, p2, p3, p4, rfl, _, rfl, ?_⟩
  refine iteNS rfl ?_
  refine ⟨_, rfl, _, _, rfl, rfl, ?_⟩
  have hwf : ∀ x, x ∈ s.ws.filter (fun m => decide (m ≠ n)) ↔ x ∈ s.ws ∧ x ≠ n := fun x => by rw [List.mem_filter, decide_eq_true_eq]
  have ndnew : (newOf s.ms (s.nb n)).Nodup := hnd.filter _
  refine k { s with ms := s.ms ++ newOf s.ms (s.nb n), ws := s.ws.filter (fun m => decide (m ≠ n)) ++ newOf s.ms (s.nb n), looks := s.looks + 1 } H4 _ _
    { sc := I3.mks.scL f4 I3.sc, nl := I.nl, ln := I3.mks.links f4 I3.ln I.lm I.lw, lk := I.lk, ra := I3.mks.lst f4 I3.ra, rnd := I.rnd, il := hi, rm := fun x hx => List.mem_append_left _ (I.rm x hx), mks := M4, lm := I.lm, lw := I.lw, mnd := ?_, wnd := ?_, wm := ?_, mn := ?_, mc := ?_, sn := I3.mks.lst f4 I3.sn, sl := ?_, ms_sn := ?_, sc_cl := I.sc_cl, n1 := I.n1, n2 := ?_, p0 := I.p0, p1 := I.p1, t0 := I.t0, a1 := I.a1, rg := fun x hx => (I.rg x hx).imp id fun z => ⟨z.1, by omega⟩, od := ?_ }
  · show (s.ms ++ newOf s.ms (s.nb n)).Nodup
    rw [List.nodup_append]
    exact ⟨I.mnd, ndnew, fun x hx y hy e => (hnew y hy).2 (e ▸ hx)⟩
  · show (s.ws.filter (fun m => decide (m ≠ n)) ++ newOf s.ms (s.nb n)).Nodup
    rw [List.nodup_append]
    exact ⟨I.wnd.filter _, ndnew, fun x hx y hy e => (hnew y hy).2 (e ▸ I.wm x ((hwf x).mp hx).1)⟩
  · intro x hx
    rcases List.mem_append.mp hx with h | h
    · exact List.mem_append_left _ (I.wm x ((hwf x).mp h).1)
    · exact List.mem_append_right _ h
  · intro x hx
    rcases List.mem_append.mp hx with h | h
    · exact I.mn x h
    · exact I.lk.cl n hnn x (hnew x h).1
  · intro x hx hxw y hy
    rcases List.mem_append.mp hx with h | h
    · by_cases e : x = n
      · subst e
        by_cases hym : y ∈ s.ms
        · exact List.mem_append_left _ hym
        · exact List.mem_append_right _ (List.mem_filter.mpr ⟨hy, decide_eq_true hym⟩)
      · exact List.mem_append_left _ (I.mc x h (fun z => hxw (List.mem_append_left _ ((hwf x).mpr ⟨z, e⟩))) y hy)
    · exact absurd (List.mem_append_right _ h) hxw
  · show s.seen.length ≤ 30 * (i + 1 + 1)
    have := I.sl
    omega
  · intro x hx
    rcases List.mem_append.mp hx with h | h
    · exact I.ms_sn x h
    · exact I.sc_cl n (I.ms_sn n hnm) hnn x (hnew x h).1
  · show s.looks + 1 = ((s.ms ++ newOf s.ms (s.nb n)).length : Int) - ((s.ws.filter (fun m => decide (m ≠ n)) ++ newOf s.ms (s.nb n)).length : Int)
    have h1 : (s.ws.filter (fun m => decide (m ≠ n))).length + 1 = s.ws.length := by
      have h2 := sub_len (m := n :: s.ws.filter (fun m => decide (m ≠ n))) (l := s.ws) (List.nodup_cons.mpr ⟨fun h => ((hwf n).mp h).2 rfl, I.wnd.filter _⟩) fun x hx => by
        rcases List.mem_cons.mp hx with rfl | hx
        · exact hnw
        · exact ((hwf x).mp hx).1
      have h3 := sub_len (m := s.ws) (l := n :: s.ws.filter (fun m => decide (m ≠ n))) I.wnd fun x hx => by
        by_cases e : x = n
        · rw [e]; exact List.mem_cons_self
        · exact List.mem_cons_of_mem _ ((hwf x).mpr ⟨hx, e⟩)
      simp only [List.length_cons] at h2 h3
      omega
    have := I.n2
    rw [List.length_append, List.length_append]
    omega
  · intro oa ord z
    exact absurd (I.od oa ord z).2.2.2.1 hne
end
end K52
namespace K52
open PySem L2
theorem lookup_filter {n z : Int} : ∀ {ps : List (Int × V)}, n ≠ z → (ps.filter fun p => decide (p.1 ≠ z)).lookup n = ps.lookup n
  | [], _ => rfl
  | (m, v) :: ps, h => by
    have ih := lookup_filter (ps := ps) h
    by_cases e : m = z
    · rw [List.filter_cons_of_neg (by simpa using e), ih]
      have : (n == m) = false := by simpa using fun q : n = m => h (q.trans e)
      simp [List.lookup, this]
    · rw [List.filter_cons_of_pos (by simpa using e)]
      by_cases q : n = m
      · subst q; simp [List.lookup]
      · have : (n == m) = false := by simpa using q
        simp only [List.lookup, this]
        exact ih
/-- a name taken out of the dict -/
theorem LinksAt.pop {K : PySem.W.Frag} {H : Hp} {L : Addr} {names : List Int} {nb : Int → List Int} {n : Int} (h : LinksAt K H L names nb) (hn : n ∈ names) :
    ∃ kvs v, H L = some (.dK kvs) ∧ valV kvs (Sum.inl n) = some v ∧ LinksAt K (upd H L (.dK (dropK kvs (Sum.inl n)))) L (names.filter fun m => decide (m ≠ n)) nb := by
  obtain ⟨ps, h1, h2, h3⟩ := h.d
  obtain ⟨t, ht, _⟩ := h3 n hn
  refine ⟨ikv ps, .ref t, h1, by rw [valV_ikv, ht], ⟨ps.filter fun p => decide (p.1 ≠ n), by rw [upd_same, dropK_ikv], ?_, fun m hm => ?_⟩⟩
  · rw [← h2, List.filter_map]
    rfl
  · obtain ⟨hm1, hm2⟩ := List.mem_filter.mp hm
    obtain ⟨s, hs, hq⟩ := h3 m hm1
    exact ⟨s, by rw [lookup_filter (of_decide_eq_true hm2)]; exact hs, seqT_dk hq h1⟩
section
variable {P : Program} {w : World} {K : PySem.W.Frag} {mg : Str → Option Value} {base : Heap} {f : Addr} {cdv : Value} {A : Around} {outer : List Env} {s0 : Shared} {H0 : Hp} {E : XK}
/-- the order is there: what is reached is marked; the first of it goes -/
theorem law_take2 (T : Top P K mg) (hr : Room 4 (XL P w K mg base f cdv A outer s0 H0 E).A) :
    ∃ t, PSs (XL P w K mg base f cdv A outer s0 H0 E) ((ifE (hd (ifE (hd (ifE chain))))).drop 1) t ∧ ∀ (D : Ends) (a b : Addr) (ns : List Int) (i : Nat) (s : Stt) (oa : Addr) (ord : List Int) (x3 x12 x13 x14 x15 : Option V) (H : Hp), LI K T.C a ns i s H → i + 1 ≤ 100 → s.ord = some (oa, ord) →
      (∀ s' H', LI K T.C a ns (i + 1) s' H' → D.nx (SL a b s' x3 x12 x13 x14 x15) H') → t D (SL a b s x3 x12 x13 x14 x15) H := by
  have GR : FnOk P w K mg base CX0 1 T.rd.f T.rd.fd ["links", "starts"] (spReached K) := ok_reached T.rd.F T.B
  have GF : FnOk P w K mg base CX0 1 T.fF T.dF ["self"] (spFirst T.C) := ok_first T.FF T.T T.B
  have hu := hu_of hr
  have hr1 : Room 1 (XL P w K mg base f cdv A outer s0 H0 E).A := hr.mono (by decide)
  refine ⟨_, pss_cons (ps_if (PW.pt (pw_or (pt_cmpR (op_neD hr.units) (pe_lc (own := [("name", 3)]) (g := gName 3) (by rfl) scL.nd (pi_list (pe_call GR hr1 (by rfl) T.rd.m T.rd.k T.rd.b .nil pass0 (pa_cons (pv 2) (pa_cons (pv 4) pa_nil)))) (blkOk_by (own := [("name", 3)]) (N := nL) (sc := defScope sLaw) (by decide +kernel)) (fun _ _ _ _ _ => pg_name (i := 3) scL.nd rfl (Or.inl rfl))
          (fun _ _ _ _ _ => pts_one (pt_cmp (pc_dnotin hu (pv 3) (pe_fldK (K := K) rfl (pv 5) rfl)))) (fun _ _ _ _ _ => pv 3)) (pe_lst pa_nil) (nomark _))
        (pw_or1 (pt_cmpR op_notN (pe_meth0 (pv 5) T.T.cl T.mF GF hr1 T.bF .nil pass0) pe_non (nomark _))))) (pss_one (ps_ret pe_bl)) pss_nil)
    (pss_one (ps_if (pt_cmpR (op_neD hr.units) (pv 11) (pe_lst pa_nil) (nomark _))
      (pss_cons (ps_expr (pe_dpop1 (pv 2) (pe_bm PySem.F.plainAttrs_list PySem.F.slot_list_pop PySem.F.type_list_pop mt_popAt (pv 11) (pa_cons pe_int pa_nil)) ⟨rfl, rfl, rfl, rfl⟩))
      (pss_one (ps_set (i := 10) scL.nd rfl (.inl rfl) (pe_op op_add (pv 10) pe_int)))) pss_nil)), ?_⟩
  intro D a b ns i s oa ord x3 x12 x13 x14 x15 H I hi ho k
  obtain ⟨hoa, hora, hosa, hws, ondp, omem, opw⟩ := I.od oa ord ho
  have hnl := I.nlen
  have hrl := I.rlen
  have cl := I.lk.cl
  have mcl : ∀ x ∈ s.ms, ∀ y ∈ s.nb x, y ∈ s.ms := fun x hx => I.mc x hx (by rw [hws]; exact List.not_mem_nil)
  refine ⟨_, rfl, _, rfl, s.L, s.ra, s.names, s.roots, s.nb, rfl, I.ln, SqL.of I.ra, by omega, by omega, I.few, cl, fun x hx => I.mn x (I.rm x hx), fun r H1 q e1 nq hq hrl' hr' => ?_⟩
  refine ⟨q, rfl, ⟨_, SqL.of hq⟩, fun D1 nD1 => ?_⟩
  have I1 := I.keep e1
  refine lcF (walkI_list (K := K) (a := q) (ns := r)) (fun _ => false) V.int nD1 (big (by omega)) (fun H' e => SqL.of (e _ _ hq)) ?_ ?_
  · intro n H' acc N hn e hD hacc kt kf
    have M' := I1.mks.keep e
    obtain ⟨dx', hob'⟩ := M'.ob
    have hnm : n ∈ s.ms := Reach.sub I.rm mcl ((hr' n).mp hn)
    refine ⟨rfl, _, rfl, _, rfl, s.p, T.C, dx', _, _, rfl, hob', T.T.cl, T.T.nM, flds_m _ _, s.dm, _, rfl, DGet.k (k := Sum.inl n) M'.m, _, rfl, ?_⟩
    rw [valV_IK, if_pos hnm]
    exact iteF (kf rfl _ (Same.refl _))
  intro H2 e2 hD2
  rw [filt_none] at hD2
  refine ⟨by decide, fun l nl => ⟨_, _, .lst (SqL.of (Same.at nl hD2)) (dp_ints []), .lst (SqL.of upd_same) .nil, shaped_list [], shaped_list [], _, rfl, ?_⟩⟩
  rw [show PyData.eqv (.list (dInts [])) (.list []) = decide (([] : List Int) = []) from eqv_list [] [], decide_eq_true rfl]
  refine iteF ?_
  have e3 := (e1.trans e2).up (o := .lst []) nl
  generalize upd H2 l (.lst []) = H3 at e3 ⊢
  have I3 := I.keep e3
  obtain ⟨dx3, hob3⟩ := I3.mks.ob
  refine ⟨_, rfl, s.p, dx3, _, rfl, hob3, flds_no _ _ (by decide +kernel) (by decide +kernel), s.p, s.dm, s.dw, s.ms, s.ws, rfl, I3.mks, fun _ => ⟨rfl, _, rfl, iteF ?_⟩, fun m hm => by rw [hws] at hm; cases hm⟩
  -- order != []
  have hoa3 := e3 _ _ hoa
  have sl11 : (SL a b s x3 x12 x13 x14 x15)[11]? = some (some (.ref oa)) := by
    show some (some (ordV s.ord)) = _
    rw [ho]
    rfl
  refine ⟨_, sl11, by decide, fun l nl => ⟨_, _, .lst (SqL.of (Same.at nl hoa3)) (dp_ints ord), .lst (SqL.of upd_same) .nil, shaped_list _, shaped_list [], _, rfl, ?_⟩⟩
  rw [show PyData.eqv (.list (dInts ord)) (.list []) = decide (ord = []) from eqv_list ord []]
  have e4 := e3.up (o := .lst []) nl
  have hoa4 := Same.at nl (o := .lst []) hoa3
  generalize upd H3 l (.lst []) = H4 at e4 hoa4 ⊢
  have I4 := (I.keep e4).more (Nat.le_succ i) hi
  cases ord with
  | nil =>
    rw [decide_eq_true rfl]
    exact iteF (k s H4 I4)
  | cons z rest =>
    rw [decide_eq_false (by simp)]
    refine iteT ?_
    obtain ⟨hzn, hzm⟩ := (omem z).mp List.mem_cons_self
    obtain ⟨hpz, hpr⟩ := List.pairwise_cons.mp opw
    have hoL : oa ≠ s.L := by
      obtain ⟨ps, hL, _⟩ := I4.ln.d
      exact ne_of hoa4 hL (by intro z; cases z)
    have hd4 : IsD H4 s.L := by
      obtain ⟨ps, hL, _⟩ := I4.ln.d
      exact .inl ⟨_, .inl hL⟩
    have tyo : tyV K "list" (.ref oa) H4 := Or.inl ⟨rfl, _, SqL.of hoa4⟩
    -- order.pop(0): the list at oa
    have I5 : LI K T.C a ns (i + 1) { s with ord := none } (upd H4 oa (.lst (rest.map V.int))) := by
      obtain ⟨dx4, hob4⟩ := I4.mks.ob
      have kl : ∀ {c : Addr} {o : HO}, H4 c = some o → c ≠ oa → (upd H4 oa (.lst (rest.map V.int))) c = some o := fun h n => by rw [upd_ne n]; exact h
      obtain ⟨ps, hL, h2, h3⟩ := I4.ln.d
      refine { I4 with sc := ?_, ln := ⟨ps, kl hL hoL.symm, h2, fun n hn => (h3 n hn).imp fun t q => ⟨q.1, ?_⟩⟩, ra := kl I4.ra hora.symm, mks := ⟨⟨dx4, kl hob4 (ne_of hob4 hoa4 (by intro z; cases z))⟩, kl I4.mks.m (ne_of I4.mks.m hoa4 (by intro z; cases z)), kl I4.mks.w (ne_of I4.mks.w hoa4 (by intro z; cases z)), I4.mks.ne⟩, sn := kl I4.sn hosa.symm, od := fun _ _ z => by cases z }
      · exact I4.sc.lst hoa4
      · rcases q.2 with (h | ⟨o, h⟩) | h
        · exact .inl (.inl (kl h (ne_of h hoa4 (by intro z; cases z))))
        · exact .inl (.inr ⟨o, kl h (ne_of h hoa4 (by intro z; cases z))⟩)
        · exact .inr h
    obtain ⟨kvs, v, hk1, hk2, hk3⟩ := I5.ln.pop hzn
    refine ⟨_, rfl, s.L, rfl, hd4, _, sl11, tyo, oa, _, 0, 0, .int z, rfl, rfl, hoa4, by decide, by decide, (by unfold seqIndex?; simp), rfl, kvs, Sum.inl z, v, hk1, rfl, hk2, ?_⟩
    refine ⟨_, rfl, _, _, rfl, rfl, ?_⟩
    have hnf : ∀ x, x ∈ s.names.filter (fun m => decide (m ≠ z)) ↔ x ∈ s.names ∧ x ≠ z := fun x => by rw [List.mem_filter, decide_eq_true_eq]
    have hup : ∀ x ∈ s.names, x ≠ z → ∀ y ∈ s.nb x, y ∈ s.names.filter (fun m => decide (m ≠ z)) := fun x hx hxz y hy => by
      refine (hnf y).mpr ⟨cl x hx y hy, fun e => ?_⟩
      subst e
      by_cases hxm : x ∈ s.ms
      · exact hzm (mcl x hxm y hy)
      · have : x ∈ rest := (List.mem_cons.mp ((omem x).mpr ⟨hx, hxm⟩)).resolve_left hxz
        exact hpz x this hy
    have hlen : (s.names.filter (fun m => decide (m ≠ z))).length + 1 = s.names.length := by
      have h2 := sub_len (m := z :: s.names.filter (fun m => decide (m ≠ z))) (l := s.names) (List.nodup_cons.mpr ⟨fun h => ((hnf z).mp h).2 rfl, I.lk.nd.filter _⟩) fun x hx => by
        rcases List.mem_cons.mp hx with rfl | hx
        · exact hzn
        · exact ((hnf x).mp hx).1
      have h3 := sub_len (m := s.names) (l := z :: s.names.filter (fun m => decide (m ≠ z))) I.lk.nd fun x hx => by
        by_cases e : x = z
        · rw [e]; exact List.mem_cons_self
        · exact List.mem_cons_of_mem _ ((hnf x).mpr ⟨hx, e⟩)
      simp only [List.length_cons] at h2 h3
      omega
    have rest_mem : ∀ x, x ∈ rest ↔ (x ∈ s.names ∧ x ≠ z) ∧ x ∉ s.ms := fun x => by
      have hz : z ∉ rest := (List.nodup_cons.mp ondp).1
      constructor
      · intro h
        obtain ⟨h1, h2⟩ := (omem x).mp (List.mem_cons_of_mem _ h)
        exact ⟨⟨h1, fun e => hz (e ▸ h)⟩, h2⟩
      · rintro ⟨⟨h1, h2⟩, h3⟩
        exact (List.mem_cons.mp ((omem x).mpr ⟨h1, h3⟩)).resolve_left h2
    have hk1' := hk1
    have M6 := I5.mks.dk (o := .dK (dropK kvs (Sum.inl z))) hk1 I5.lm I5.lw
    have kd : ∀ {c : Addr} {xs : List V}, (upd H4 oa (.lst (rest.map V.int))) c = some (.lst xs) → (upd (upd H4 oa (.lst (rest.map V.int))) s.L (.dK (dropK kvs (Sum.inl z)))) c = some (.lst xs) := fun h => by rw [upd_ne (ne_of h hk1 (by intro z; cases z))]; exact h
    have eS : (SL a b { s with names := s.names.filter (fun m => decide (m ≠ z)), takes := s.takes + 1, ord := some (oa, rest) } x3 x12 x13 x14 x15) = (SL a b s x3 x12 x13 x14 x15).set 10 (some (.int (s.takes + 1))) := by
      have ho' : ordV s.ord = .ref oa := by rw [ho]; rfl
      unfold SL
      rw [ho']
      rfl
    have fin := fun H' => k { s with names := s.names.filter (fun m => decide (m ≠ z)), takes := s.takes + 1, ord := some (oa, rest) } H'
    rw [eS] at fin
    refine fin _
      { I5 with sc := I5.sc.dk hk1, ln := hk3, lk := ⟨I.lk.nd.filter _, fun n hn => I.lk.few n ((hnf n).mp hn).1, fun n hn => I.lk.nds n ((hnf n).mp hn).1, fun n hn y hy => hup n ((hnf n).mp hn).1 ((hnf n).mp hn).2 y hy, fun n hn => I.lk.dn n ((hnf n).mp hn).1⟩, ra := kd I5.ra, mks := M6, mn := fun x hx => (hnf x).mpr ⟨I.mn x hx, fun e => hzm (e ▸ hx)⟩, sn := kd I5.sn, sc_cl := fun x hx hxn => I.sc_cl x hx ((hnf x).mp hxn).1, n1 := ?_, t0 := ?_, rg := fun x hx => I5.rg x ((hnf x).mp hx).1, od := ?_ }
    · show ((s.names.filter (fun m => decide (m ≠ z))).length : Int) = s.af + s.put - (s.takes + 1)
      have := I.n1
      omega
    · show 0 ≤ s.takes + 1
      have := I.t0
      omega
    · intro oa' ord' h
      injection h with h
      injection h with h1 h2
      subst h1 h2
      exact ⟨kd upd_same, hora, hosa, hws, (List.nodup_cons.mp ondp).2, fun x => by rw [rest_mem, hnf], hpr⟩
end
end K52
namespace K52
open PySem L2
section
variable {P : Program} {w : World} {K : PySem.W.Frag} {mg : Str → Option Value} {base : Heap} {f : Addr} {cdv : Value} {A : Around} {outer : List Env} {s0 : Shared} {H0 : Hp} {E : XK}
theorem law_take (T : Top P K mg) (hr : Room 4 (XL P w K mg base f cdv A outer s0 H0 E).A) :
    ∃ t, PSs (XL P w K mg base f cdv A outer s0 H0 E) (ifE (hd (ifE (hd (ifE chain))))) t ∧ ∀ (D : Ends) (a b : Addr) (ns : List Int) (i : Nat) (s : Stt) (x3 x12 x13 x14 x15 : Option V) (H : Hp), LI K T.C a ns i s H → i + 1 ≤ 100 → s.ws = [] →
      (∀ s' H', LI K T.C a ns (i + 1) s' H' → D.nx (SL a b s' x3 x12 x13 x14 x15) H') → t D (SL a b s x3 x12 x13 x14 x15) H := by
  have GTO : FnOk P w K mg base CX0 1 T.to.f T.to.fd ["links", "names"] (spTO K) := ok_to T.to.F T.B
  have hu := hu_of hr
  have hr1 : Room 1 (XL P w K mg base f cdv A outer s0 H0 E).A := hr.mono (by decide)
  obtain ⟨t2, ht2, hq2⟩ := law_take2 (w := w) (base := base) (f := f) (cdv := cdv) (outer := outer) (s0 := s0) (H0 := H0) (E := E) T hr
  refine ⟨_, pss_cons (ps_if (pt_cmpR op_isN (pv 11) pe_non (nomark _)) (pss_one (ps_set (i := 11) scL.nd rfl (.inl rfl) (c_list T.B (pe_call GTO hr1 (by rfl) T.to.m T.to.k T.to.b .nil pass0 (pa_cons (pv 2) (pa_cons
      (pe_lock (pe_lc (own := [("name", 3)]) (g := gName 3) (by rfl) scL.nd (pi_keys (pv 2)) (blkOk_by (own := [("name", 3)]) (N := nL) (sc := defScope sLaw) (by decide +kernel)) (fun _ _ _ _ _ => pg_name (i := 3) scL.nd rfl (Or.inl rfl))
          (fun _ _ _ _ _ => pts_one (pt_cmp (pc_dnotin hu (pv 3) (pe_fldK (K := K) rfl (pv 5) rfl)))) (fun _ _ _ _ _ => pv 3))) pa_nil)))))) pss_nil) ht2, ?_⟩
  intro D a b ns i s x3 x12 x13 x14 x15 H I hi hws k
  have hnl := I.nlen
  refine ⟨_, rfl, rfl, _, rfl, ?_⟩
  cases ho : s.ord with
  | some p =>
    obtain ⟨oa, ord⟩ := p
    rw [show decide (ordV (some (oa, ord)) = V.non) = false from decide_eq_false (by intro z; cases z)]
    refine iteF ?_
    exact hq2 D a b ns i s oa ord x3 x12 x13 x14 x15 H I hi ho k
  | none =>
    rw [show decide (ordV none = V.non) = true from decide_eq_true rfl]
    refine iteT ?_
    obtain ⟨ps, hL, hps, hlk⟩ := I.ln.lock
    refine ⟨_, rfl, s.L, _, hL, trivial, fun od => ⟨_, rfl, s.L, od, rfl, .inl ⟨_, upd_same, fun D1 nD1 => ?_⟩⟩⟩
    have hDL : D1 ≠ s.L := fun z => by rw [z, upd_same] at nD1; cases nD1
    have ML := I.mks.dk (o := .frz od (.dK (ikv ps))) hL I.lm I.lw
    refine lcF (walkI_keys (d := s.L) (o := od) (ps := ps)) (fun x => decide (x ∉ s.ms)) V.int nD1 (big (by rw [hps]; omega)) (fun H' e => e _ _ upd_same) ?_ ?_
    · intro n H' acc N hn e hD hacc kt kf
      have M' := ML.keep e
      obtain ⟨dx', hob'⟩ := M'.ob
      refine ⟨rfl, _, rfl, _, rfl, s.p, T.C, dx', _, _, rfl, hob', T.T.cl, T.T.nM, flds_m _ _, s.dm, _, rfl, DGet.k (k := Sum.inl n) M'.m, _, rfl, ?_⟩
      rw [valV_IK]
      by_cases hnm : n ∈ s.ms
      · rw [if_pos hnm]
        exact iteF (kf (by simp [hnm]) _ (Same.refl _))
      · rw [if_neg hnm]
        exact iteT ⟨_, rfl, _, hD, hacc, kt (by simp [hnm]) _ (Same.refl _)⟩
    intro H3 e3 hD3
    rw [hps] at hD3
    refine ⟨e3 _ _ upd_same, ?_⟩
    have e4 : Same H (upd H3 s.L (.dK (ikv ps))) := Same.frz e3 hL
    have hD4 : (upd H3 s.L (.dK (ikv ps))) D1 = some (.lst ((s.names.filter fun x => decide (x ∉ s.ms)).map V.int)) := by rw [upd_ne hDL]; exact hD3
    generalize upd H3 s.L (.dK (ikv ps)) = H4 at e4 hD4 ⊢
    have I4 := I.keep e4
    have hS : ∀ x, x ∈ (s.names.filter fun x => decide (x ∉ s.ms)) ↔ x ∈ s.names ∧ x ∉ s.ms := fun x => by rw [List.mem_filter, decide_eq_true_eq]
    have hSl : (s.names.filter fun x => decide (x ∉ s.ms)).length ≤ s.names.length := List.length_filter_le _ _
    refine ⟨s.L, D1, s.names, _, s.nb, s.rk, rfl, I4.ln, SqL.of hD4, by omega, I.lk.nd.filter _, fun x hx => ((hS x).mp hx).1, I.few, fun x hx => I.lk.dn x ((hS x).mp hx).1, fun r H5 q e5 nq hq rnd rmem rpw => ?_⟩
    refine ⟨q, _, rfl, .inr (SqT.of hq), fun oa noa => ?_⟩
    have e6 := (e4.trans e5).up (o := .lst (r.map V.int)) noa
    have hoa : (upd H5 oa (.lst (r.map V.int))) oa = some (.lst (r.map V.int)) := upd_same
    have noaH : H oa = none := (e4.trans e5).free noa
    generalize upd H5 oa (.lst (r.map V.int)) = H6 at e6 hoa ⊢
    have I6 : LI K T.C a ns i { s with ord := some (oa, r) } H6 := by
      refine { I.keep e6 with od := fun oa' ord' h => ?_ }
      injection h with h
      injection h with h1 h2
      subst h1 h2
      exact ⟨hoa, (ne_of_none I.ra noaH).symm, (ne_of_none I.sn noaH).symm, hws, rnd, fun x => (rmem x).trans (hS x), rpw⟩
    exact hq2 D a b ns i { s with ord := some (oa, r) } oa r x3 x12 x13 x14 x15 H6 I6 hi rfl k
end
end K52
namespace K52
open PySem L2
section
variable {P : Program} {w : World} {K : PySem.W.Frag} {mg : Str → Option Value} {base : Heap} {f : Addr} {cdv : Value} {A : Around} {outer : List Env} {s0 : Shared} {H0 : Hp} {E : XK}
theorem law_chain (T : Top P K mg) (hG : (XL P w K mg base f cdv A outer s0 H0 E).A.guards = some []) (hr : Room 4 (XL P w K mg base f cdv A outer s0 H0 E).A) :
    ∃ t, PS (XL P w K mg base f cdv A outer s0 H0 E) chain t ∧ ∀ (D : Ends) (a b : Addr) (ns : List Int) (i : Nat) (s : Stt) (d : Int) (x3 x14 x15 : Option V) (H : Hp), LI K T.C a ns i s H → Bx b s H → i + 1 ≤ 100 →
      (∀ s' H' x3' x14' x15', LI K T.C a ns (i + 1) s' H' → D.nx (SL a b s' x3' (some (.int ((1 : Int) + i))) (some (.int d)) x14' x15') H') → t D (SL a b s x3 (some (.int ((1 : Int) + i))) (some (.int d)) x14 x15) H := by
  have hu := hu_of hr
  obtain ⟨tp, htp, hqp⟩ := law_put (w := w) (base := base) (f := f) (cdv := cdv) (outer := outer) (s0 := s0) (H0 := H0) (E := E) T hr
  obtain ⟨tr, htr, hqr⟩ := law_roots (w := w) (base := base) (f := f) (cdv := cdv) (outer := outer) (s0 := s0) (H0 := H0) (E := E) T hG hr
  obtain ⟨tl, htl, hql⟩ := law_look (w := w) (base := base) (f := f) (cdv := cdv) (outer := outer) (s0 := s0) (H0 := H0) (E := E) T hG hr
  obtain ⟨tt, htt, hqt⟩ := law_take (w := w) (base := base) (f := f) (cdv := cdv) (outer := outer) (s0 := s0) (H0 := H0) (E := E) T hr
  refine ⟨_, ps_if (PW.pt (pw_and (pt_cmpR op_eq (pv 13) pe_int (nomark _)) (pw_and (pt_cmpR op_lt (c_lenD T.B (pv 2)) pe_int (nomark _)) (pw_and1 (pt_cmpR op_lt (pv 8) pe_int (nomark _)))))) htp
    (pss_one (ps_if (PW.pt (pw_and (pt_cmpR op_eq (pv 13) pe_int (nomark _)) (pw_and1 (pt_cmpR (op_neD0 hr.units0) (pv 2) pe_dnewK (nomark _))))) htr
    (pss_one (ps_if (pt_cmpR (op_neD0 hr.units0) (pe_fld (pv 5) rfl) pe_dnewK (nomark _)) htl htt)))), ?_⟩
  intro D a b ns i s d x3 x14 x15 H I B hi k
  -- nothing of the first two: a look, or a take
  have last : ∀ H', LI K T.C a ns i s H' → tIfS (tTest (tOp (rDict0 true) (tFld K (tVar 5) "waiting") tDNewK)) tl tt D (SL a b s x3 (some (.int ((1 : Int) + i))) (some (.int d)) x14 x15) H' := fun H' I' => by
    obtain ⟨dx, hob⟩ := I'.mks.ob
    refine ⟨_, rfl, s.p, T.C, dx, _, _, rfl, hob, T.T.cl, T.T.nW, flds_w _ _, fun e ne => ⟨s.dw, e, _, rfl, rfl, Same.at ne I'.mks.w, upd_same, _, rfl, ?_⟩⟩
    have I2 := I'.keep (Same.new ne (o := .dK []))
    have hik : IK s.ws = [] ↔ s.ws = [] := by
      unfold IK ikv
      rw [List.map_eq_nil_iff, List.map_eq_nil_iff]
    by_cases hws : s.ws = []
    · rw [show (if true = true then !decide (IK s.ws = []) else decide (IK s.ws = [])) = false by rw [if_pos rfl, decide_eq_true (hik.mpr hws)]; rfl]
      exact iteF (hqt D a b ns i s x3 _ _ x14 x15 _ I2 hi hws fun s' H'' I'' => k s' H'' _ _ _ I'')
    · rw [show (if true = true then !decide (IK s.ws = []) else decide (IK s.ws = [])) = true by rw [if_pos rfl, decide_eq_false (fun z => hws (hik.mp z))]; rfl]
      exact iteT (hql D a b ns i s x3 _ _ x14 x15 _ I2 hi hws fun s' H'' x3' x15' I'' => k s' H'' _ _ _ I'')
  have second : ∀ H', LI K T.C a ns i s H' → Bx b s H' → tIfS (tAnd (tTest (tOp rEq (tVar 13) (tC (.int 5)))) (tTest (tOp (rDict0 true) (tVar 2) tDNewK))) tr (tIfS (tTest (tOp (rDict0 true) (tFld K (tVar 5) "waiting") tDNewK)) tl tt) D (SL a b s x3 (some (.int ((1 : Int) + i))) (some (.int d)) x14 x15) H' := fun H' I' B' => by
    refine ⟨_, rfl, rfl, _, rfl, ?_⟩
    by_cases hd : V.int d = V.int 5
    · rw [decide_eq_true hd]
      refine iteT ?_
      obtain ⟨ps, hL, hps, hks, hnil⟩ := I'.dict
      refine ⟨_, rfl, fun e ne => ⟨s.L, e, _, rfl, rfl, Same.at ne hL, upd_same, _, rfl, ?_⟩⟩
      have I2 := I'.keep (Same.new ne (o := .dK []))
      by_cases hne : s.names = []
      · rw [show (if true = true then !decide (ikv ps = []) else decide (ikv ps = [])) = false by rw [if_pos rfl, decide_eq_true (hnil.mpr hne)]; rfl]
        exact iteF (last _ I2)
      · rw [show (if true = true then !decide (ikv ps = []) else decide (ikv ps = [])) = true by rw [if_pos rfl, decide_eq_false (fun z => hne (hnil.mp z))]; rfl]
        exact iteT (hqr D a b ns i s x3 _ _ x14 x15 _ I2 (B'.keep (Same.new ne)) hi hne fun s' H'' x3' x15' I'' => k s' H'' _ _ _ I'')
    · rw [decide_eq_false hd]
      exact iteF (iteF (last _ I'))
  refine ⟨_, rfl, rfl, _, rfl, ?_⟩
  by_cases hd : V.int d = V.int 4
  · rw [decide_eq_true hd]
    refine iteT ?_
    obtain ⟨ps, hL, hps, hks, hnil⟩ := I.dict
    refine ⟨_, rfl, s.L, _, rfl, hL, _, _, rfl, rfl, _, rfl, ite2 (fun h2 => ?_) (fun h2 => iteF (second _ I B))⟩
    refine ⟨_, rfl, _, _, rfl, rfl, _, rfl, ite2 (fun h3 => ?_) (fun h3 => second _ I B)⟩
    exact hqp D a b ns i s x3 _ x14 x15 _ I B hi (of_decide_eq_true h3) fun s' H'' x3' x14' I'' => k s' H'' _ _ _ I''
  · rw [decide_eq_false hd]
    exact iteF (iteF (second _ I B))
end
end K52
namespace K52
open PySem L2
section
variable {P : Program} {w : World} {K : PySem.W.Frag} {mg : Str → Option Value} {base : Heap} {f : Addr} {cdv : Value} {A : Around} {outer : List Env} {s0 : Shared} {H0 : Hp} {E : XK}
theorem law_body (T : Top P K mg) (hG : (XL P w K mg base f cdv A outer s0 H0 E).A.guards = some []) (hr : Room 4 (XL P w K mg base f cdv A outer s0 H0 E).A) :
    ∃ t, PSs (XL P w K mg base f cdv A outer s0 H0 E) (forB (lawSt 6)) t ∧ ∀ (D : Ends) (a b : Addr) (ns : List Int) (i : Nat) (s : Stt) (x3 x13 x14 x15 : Option V) (H : Hp), LI K T.C a ns i s H → i + 1 ≤ 100 →
      (∀ b' s' H' x3' x13' x14' x15', LI K T.C a ns (i + 1) s' H' → D.nx (SL a b' s' x3' (some (.int ((1 : Int) + i))) x13' x14' x15') H') → t D (SL a b s x3 (some (.int ((1 : Int) + i))) x13 x14 x15) H := by
  have GB : FnOk P w K mg base CX0 1 T.bx.f T.bx.fd ["script", "k"] (spBox K) := ok_box T.bx.F T.B
  have GT : FnOk P w K mg base CX0 1 T.tk.f T.tk.fd ["box", "many"] spTake := ok_take T.tk.F T.B
  have hr1 : Room 1 (XL P w K mg base f cdv A outer s0 H0 E).A := hr.mono (by decide)
  obtain ⟨tc, htc, hqc⟩ := law_chain (w := w) (base := base) (f := f) (cdv := cdv) (outer := outer) (s0 := s0) (H0 := H0) (E := E) T hG hr
  obtain ⟨tk, htk, hqk⟩ := law_chk (w := w) (base := base) (f := f) (cdv := cdv) (outer := outer) (s0 := s0) (H0 := H0) (E := E) T hG hr
  refine ⟨_, pss_cons (ps_set (i := 1) scL.nd rfl (.inr rfl) (pe_call GB hr1 (by rfl) T.bx.m T.bx.k T.bx.b .nil pass0 (pa_cons (pv 0) (pa_cons (pv 12) pa_nil))))
    (pss_cons (ps_set (i := 13) scL.nd rfl (.inl rfl) (pe_ifExp (pt_cmpR op_lt (pv 12) pe_int (nomark _)) (pe_call GT hr1 (by rfl) T.tk.m T.tk.k T.tk.b .nil pass0 (pa_cons (pv 1) (pa_cons pe_int pa_nil))) pe_int))
    (pss_cons htc htk)), ?_⟩
  intro D a b ns i s x3 x13 x14 x15 H I hi k
  refine ⟨_, rfl, _, rfl, a, ns, 1 + i, congrArg (fun z => [V.ref a, V.int z]) (by omega), I.sc.seq, I.nl, fun b' H1 e1 nb hb => ?_⟩
  have I1 := I.keep e1
  have B1 : Bx b' s H1 := ⟨hb, ne_of_none I.ra nb, ne_of_none I.sn nb, fun oa ord z => ne_of_none (I.od oa ord z).1 nb⟩
  have fin : ∀ (d : Int) (H2 : Hp), LI K T.C a ns i s H2 → Bx b' s H2 → tSeq tc tk D (SL a b' s x3 (some (.int ((1 : Int) + i))) (some (.int d)) x14 x15) H2 := fun d H2 I2 B2 =>
    hqc { D with nx := fun σ H => tk D σ H } a b' ns i s d x3 x14 x15 H2 I2 B2 hi fun s' H' x3' x14' x15' I' => hqk D a b' ns (i + 1) s' x3' _ _ x14' x15' H' I' fun H'' e'' => k b' s' H'' x3' _ x14' x15' (I'.keep e'')
  refine ⟨_, rfl, _, _, rfl, rfl, _, rfl, ite2 (fun _ => ?_) (fun _ => ?_)⟩
  · refine ⟨_, rfl, b', 6, rfl, hb, by decide, by decide, fun d H2 d0 d1 f2 b2 => ?_⟩
    exact fin d H2 (I1.fr B1 f2) (B1.bo b2)
  · exact fin 0 H1 I1 B1
end
end K52
namespace K52
open PySem L2
section
variable {P : Program} {w : World} {K : PySem.W.Frag} {mg : Str → Option Value} {base : Heap} {f : Addr} {cdv : Value} {A : Around} {outer : List Env} {s0 : Shared} {H0 : Hp} {E : XK}
theorem law_end (T : Top P K mg) (hr : Room 4 (XL P w K mg base f cdv A outer s0 H0 E).A) :
    ∃ t, PSs (XL P w K mg base f cdv A outer s0 H0 E) ((defBody sLaw).drop 7) t ∧ ∀ (D : Ends) (a b : Addr) (ns : List Int) (i : Nat) (s : Stt) (x3 x12 x13 x14 x15 : Option V) (H : Hp), LI K T.C a ns i s H →
      (∀ H', D.rt (.bl true) H') → t D (SL a b s x3 x12 x13 x14 x15) H := by
  have GN : FnOk P w K mg base CX0 4 T.nw.f T.nw.fd ["marks"] (spNW T.C) := ok_nw T.nw.F T.B T.T T.FS T.bS T.mS T.FL T.bL T.mL T.R T.S T.mK T.kit
  have hu := hu_of hr
  refine ⟨_, pss_cons (ps_if (PW.pt (pw_and (pt_cmpR (op_eqD0 hr.units0) (pe_fld (pv 5) rfl) pe_dnewK (nomark _)) (pw_and (pt_cmpR (op_eqD hr.units) (pv 11) (pe_lst pa_nil) (nomark _)) (pw_and1 (pt_cmpR (op_neD hr.units)
      (pe_lock (pe_lc (own := [("name", 3)]) (g := gName 3) (by rfl) scL.nd (pi_keys (pv 2)) (blkOk_by (own := [("name", 3)]) (N := nL) (sc := defScope sLaw) (by decide +kernel)) (fun _ _ _ _ _ => pg_name (i := 3) scL.nd rfl (Or.inl rfl))
        (fun _ _ _ _ _ => pts_one (pt_cmpR (op_notInK (K := K) rfl) (pv 3) (pv 6) (by rfl))) (fun _ _ _ _ _ => pv 3))) (pe_lst pa_nil) (nomark _)))))) (pss_one (ps_ret pe_bl)) pss_nil)
    (pss_one (ps_ret (pe_and (pe_cmpR op_le (pv 9) (c_lenD T.B (pe_fld (pv 5) rfl)) (nomark _)) (pe_and (pe_cmpR op_le (pv 10) (pe_op op_add (pv 7) (pv 8)) (nomark _)) (pe_one (pe_call GN hr (by rfl) T.nw.m T.nw.k T.nw.b .nil pass0 (pa_cons (pv 5) pa_nil))))))), ?_⟩
  intro D a b ns i s x3 x12 x13 x14 x15 H I k
  have hnl := I.nlen
  have hml := I.mlen
  have hwl := I.wlen
  -- the answer
  have ret : ∀ H', LI K T.C a ns i s H' → tRet (tAndV (tOp (rI0 fun i j => .bl (decide (i ≤ j))) (tVar 9) (tCB (fun xs H Q => ∃ a kvs, xs = [V.ref a] ∧ H a = some (.dK kvs) ∧ Q (.int kvs.length) H) (tCons (tFld K (tVar 5) "marked") tNil)))
      (tAndV (tOp (rI0 fun i j => .bl (decide (i ≤ j))) (tVar 10) (tOp (rI0 fun i j => .int (i + j)) (tVar 7) (tVar 8))) (tCall (spNW T.C) [] E0 (tCons (tVar 5) tNil)))) D (SL a b s x3 x12 x13 x14 x15) H' := fun H' I' => by
    obtain ⟨dx, hob⟩ := I'.mks.ob
    refine ⟨_, rfl, _, rfl, s.p, T.C, dx, _, _, rfl, hob, T.T.cl, T.T.nM, flds_m _ _, s.dm, _, rfl, I'.mks.m, _, _, rfl, rfl, _, rfl, ?_⟩
    have h1 : decide (s.looks ≤ ((IK s.ms).length : Int)) = true := decide_eq_true (by rw [IK_len]; have := I.n2; omega)
    rw [h1]
    refine iteT ?_
    refine ⟨_, rfl, _, rfl, _, rfl, _, _, rfl, rfl, _, _, rfl, rfl, _, rfl, ?_⟩
    have h2 : decide (s.takes ≤ s.af + s.put) = true := decide_eq_true (by have := I.n1; omega)
    rw [h2]
    refine iteT ?_
    refine ⟨_, rfl, s.p, s.dm, s.dw, s.ms, s.ws, rfl, I'.mks, by omega, by omega, I.wm, fun h9 => ?_, k⟩
    have := I.rg _ (I.mn _ (I.wm _ h9))
    have := I.il
    omega
  obtain ⟨dx, hob⟩ := I.mks.ob
  refine ⟨_, rfl, s.p, T.C, dx, _, _, rfl, hob, T.T.cl, T.T.nW, flds_w _ _, fun e ne => ⟨s.dw, e, _, rfl, rfl, Same.at ne I.mks.w, upd_same, _, rfl, ?_⟩⟩
  have I1 := I.keep (Same.new ne (o := .dK []))
  have hik : IK s.ws = [] ↔ s.ws = [] := by
    unfold IK ikv
    rw [List.map_eq_nil_iff, List.map_eq_nil_iff]
  rw [if_neg (by decide : ¬ (false = true))]
  by_cases hws : s.ws = []
  · rw [decide_eq_true (hik.mpr hws)]
    refine iteT ?_
    -- order == []
    refine ⟨_, rfl, by decide, fun l nl => ?_⟩
    have I2 := I1.keep (Same.new nl (o := .lst []))
    cases ho : s.ord with
    | none =>
      refine ⟨_, _, .non, .lst (SqL.of upd_same) .nil, rfl, shaped_list [], _, rfl, ?_⟩
      exact iteF (iteF (ret _ I2))
    | some p =>
      obtain ⟨oa, ord⟩ := p
      obtain ⟨hoa, _, _, _, ondp, omem, _⟩ := I2.od oa ord ho
      refine ⟨_, _, .lst (SqL.of hoa) (dp_ints ord), .lst (SqL.of upd_same) .nil, shaped_list _, shaped_list [], _, rfl, ?_⟩
      rw [show PyData.eqv (.list (dInts ord)) (.list []) = decide (ord = []) from eqv_list ord []]
      by_cases hod : ord = []
      · rw [decide_eq_true hod]
        refine iteT ?_
        have hall : ∀ x ∈ s.names, x ∈ s.seen := fun x hx => by
          by_cases hxm : x ∈ s.ms
          · exact I.ms_sn x hxm
          · have := (omem x).mpr ⟨hx, hxm⟩
            rw [hod] at this
            cases this
        obtain ⟨ps, hL, hps, hlk⟩ := I2.ln.lock
        refine ⟨s.L, _, hL, trivial, fun od => ⟨_, rfl, s.L, od, rfl, .inl ⟨_, upd_same, fun D1 nD1 => ?_⟩⟩⟩
        have hDL : D1 ≠ s.L := fun z => by rw [z, upd_same] at nD1; cases nD1
        have hsL : (upd (upd (upd H e (.dK [])) l (.lst [])) s.L (.frz od (.dK (ikv ps)))) s.sa = some (.lst (s.seen.map V.int)) := by
          rw [upd_ne (ne_of I2.sn hL (by intro z; cases z))]
          exact I2.sn
        refine lcF (walkI_keys (d := s.L) (o := od) (ps := ps)) (fun _ => false) V.int nD1 (big (by rw [hps]; omega)) (fun H' e => e _ _ upd_same) ?_ ?_
        · intro n H' acc N hn e hD hacc kt kf
          rw [hps] at hn
          refine ⟨rfl, _, rfl, _, rfl, s.sa, _, rfl, .inl (SqL.of (e _ _ hsL)), rfl, flat_ints s.seen, _, rfl, ?_⟩
          rw [inV_ints, decide_eq_true (hall n hn)]
          exact iteF (kf rfl _ (Same.refl _))
        · intro H3 e3 hD3
          rw [filt_none] at hD3
          refine ⟨e3 _ _ upd_same, ?_⟩
          have e4 := Same.frz e3 hL
          have hD4 : (upd H3 s.L (.dK (ikv ps))) D1 = some (.lst []) := by rw [upd_ne hDL]; exact hD3
          have I4 := I2.keep e4
          generalize upd H3 s.L (.dK (ikv ps)) = H4 at I4 hD4 ⊢
          refine ⟨by decide, fun l2 nl2 => ⟨_, _, .lst (SqL.of (Same.at nl2 hD4)) (dp_ints []), .lst (SqL.of upd_same) .nil, shaped_list [], shaped_list [], _, rfl, ?_⟩⟩
          rw [show PyData.eqv (.list (dInts [])) (.list []) = decide (([] : List Int) = []) from eqv_list [] [], decide_eq_true rfl]
          exact iteF (ret _ (I4.keep (Same.new nl2)))
      · rw [decide_eq_false hod]
        exact iteF (iteF (ret _ I2))
  · rw [decide_eq_false (fun z => hws (hik.mp z))]
    exact iteF (iteF (ret _ I1))
end
end K52
namespace K52
open PySem L2
def spLaw (K : PySem.W.Frag) : Sp := fun vs H Q _ => ∃ (a : Addr) (ns : List Int), vs = [.ref a] ∧ ScL K H a (ns.map V.int) ∧ ns.length ≤ 63 ∧ ∀ H', Q (.bl true) H'
abbrev dBools (n : Nat) (b : Bool) : List PyData := List.replicate n (.bool b)
theorem dp_bools {K : PySem.W.Frag} {H : Hp} (b : Bool) : ∀ n : Nat, DpAll K H (List.replicate n (V.bl b)) (dBools n b)
  | 0 => .nil
  | n + 1 => .cons (.bl b) (dp_bools b n)
theorem lay_bools (b : Bool) : ∀ n : Nat, PyData.canLayAll0 (dBools n b) = true
  | 0 => rfl
  | n + 1 => by
    show (PyData.canLay0 (.bool b) && PyData.canLayAll0 (dBools n b)) = true
    rw [lay_bools b n]
    rfl
theorem depth_bools (b : Bool) : ∀ n : Nat, PyData.depthAll (dBools n b) ≤ 1
  | 0 => by unfold dBools; rw [List.replicate_zero, PyData.depthAll]; omega
  | n + 1 => by
    have := depth_bools b n
    unfold dBools at this ⊢
    rw [List.replicate_succ, PyData.depthAll, PyData.depth]
    omega
theorem shaped_bools (n : Nat) (b : Bool) : SeqAt.shaped (.list (dBools n b)) = true := by
  have h := depth_bools b n
  have c := lay_bools b n
  unfold SeqAt.shaped
  rw [PyData.canLay0, PyData.depth, c]
  simp
  omega
theorem eqv_bools (b : Bool) : ∀ n : Nat, PyData.eqvAll (dBools n b) (dBools n b) = true
  | 0 => by unfold dBools; rw [List.replicate_zero, PyData.eqvAll]
  | n + 1 => by
    have := eqv_bools b n
    unfold dBools at this ⊢
    rw [List.replicate_succ, PyData.eqvAll, this, PyData.eqv]
    simp
theorem Fr2.put {a b p : Addr} {H H' : Hp} {o : HO} (f : Fr2 a b H H') (n : H p = none) : Fr2 a b H (upd H' p o) := fun c u e na nb => by
  rw [upd_ne (ne_of_none e n)]
  exact f c u e na nb
theorem rep_flat (n : Nat) (b : Bool) : (List.replicate n [V.bl b]).flatten = List.replicate n (V.bl b) := by
  induction n with
  | zero => rfl
  | succ n ih => rw [List.replicate_succ, List.flatten_cons, ih, List.replicate_succ]; rfl
theorem map_bl (b : Bool) : ∀ l : List Int, (l.map fun _ => V.bl b) = List.replicate l.length (V.bl b)
  | [] => rfl
  | x :: l => by rw [List.map_cons, map_bl b l, List.length_cons, List.replicate_succ]
theorem hi_bounds (L : Nat) : 1 ≤ (if (if (90 : Int) < (L : Int) then (90 : Int) else (L : Int)) > 30 then (if (90 : Int) < (L : Int) then (90 : Int) else (L : Int)) else 30) ∧ (if (if (90 : Int) < (L : Int) then (90 : Int) else (L : Int)) > 30 then (if (90 : Int) < (L : Int) then (90 : Int) else (L : Int)) else 30) ≤ 90 := by
  split <;> split <;> omega
section
variable {P : Program} {w : World} {K : PySem.W.Frag} {mg : Str → Option Value} {base : Heap}
theorem ok_law {f : Addr} {fd : FuncData} (F : Fun K "law" "law" sLaw f fd) (T : Top P K mg) : FnG P w K mg base CX0 5 f fd ["script"] (spLaw K) := by
  have GB : FnOk P w K mg base CX0 1 T.bx.f T.bx.fd ["script", "k"] (spBox K) := ok_box T.bx.F T.B
  have GT : FnOk P w K mg base CX0 1 T.tk.f T.tk.fd ["box", "many"] spTake := ok_take T.tk.F T.B
  have GK : FnOk P w K mg base CX0 3 T.lk.f T.lk.fd ["box", "most"] (spLinks K) := ok_links T.lk.F T.B T.tk T.pk
  have GR : FnOk P w K mg base CX0 1 T.rd.f T.rd.fd ["links", "starts"] (spReached K) := ok_reached T.rd.F T.B
  have GM : FnOk P w K mg base CX0 1 T.fM T.dM ["self"] (spInit T.C) := ok_minit T.FM T.T
  have GS : FnOk P w K mg base CX0 1 T.fS T.dS ["self", "name"] (spShade T.C) := ok_shade T.FS T.T
  refine F.okG scL (fun vs H Q E h => ?_) (fun cdv A outer s0 H0 vs Q E hG hr h => ?_)
  · obtain ⟨a, ns, rfl, _⟩ := h
    rfl
  · obtain ⟨a, ns, rfl, hsc, hl, kq⟩ := h
    have hu := hu_of hr
    have hr1 : Room 1 (XL P w K mg base f cdv A outer s0 H0 E).A := hr.mono (by decide)
    have hr2 : Room 2 (XL P w K mg base f cdv A outer s0 H0 E).A := hr.mono (by decide)
    have hr3 : Room 3 (XL P w K mg base f cdv A outer s0 H0 E).A := hr.mono (by decide)
    obtain ⟨tb, htb, hqb⟩ := law_body (w := w) (base := base) (f := f) (cdv := cdv) (outer := outer) (s0 := s0) (H0 := H0) (E := E) (A := A) T hG hr
    obtain ⟨te, hte, hqe⟩ := law_end (w := w) (base := base) (f := f) (cdv := cdv) (outer := outer) (s0 := s0) (H0 := H0) (E := E) (A := A) T hr
    refine ⟨_, pss_cons (ps_set (i := 1) scL.nd rfl (.inr rfl) (pe_call GB hr1 (by rfl) T.bx.m T.bx.k T.bx.b .nil pass0 (pa_cons (pv 0) (pa_cons pe_int pa_nil))))
      (pss_cons (ps_set (i := 2) scL.nd rfl (.inr rfl) (pe_call GK hr3 (by rfl) T.lk.m T.lk.k T.lk.b .nil pass0 (pa_cons (pv 1) (pa_cons pe_int pa_nil))))
      (pss_cons (ps_setLc (i := 4) (own := [("name", 3)]) (g := gName 3) (by rfl) scL.nd rfl rfl (sw_true rfl rfl rfl (by decide +kernel)) (pi_list (c_sortedD rfl T.B (pv 2))) (blkOk_by (own := [("name", 3)]) (N := nL) (sc := defScope sLaw) (by decide +kernel)) (fun _ _ _ _ _ => pg_name (i := 3) scL.nd rfl (Or.inl rfl))
          (fun _ _ _ _ _ => pts_one (pt_cmpR op_eq (pe_call GT hr1 (by rfl) T.tk.m T.tk.k T.tk.b .nil pass0 (pa_cons (pv 1) (pa_cons pe_int pa_nil))) pe_int (nomark _))) (fun _ _ _ _ _ => pv 3))
      (pss_cons (ps_asg (pe_tup (pa_cons (pe_make0 T.M GM hr2 (by rfl) T.T.mgC T.bM .nil pass0) (pa_cons (pe_call GR hr1 (by rfl) T.rd.m T.rd.k T.rd.b .nil pass0 (pa_cons (pv 2) (pa_cons (pv 4) pa_nil))) (pa_cons (c_lenD T.B (pv 2)) (pa_cons pe_int (pa_cons pe_int (pa_cons pe_int pa_nil)))))))
          (pg_tup (by rfl) (pgs_cons (pg_name (i := 5) scL.nd rfl (.inr rfl)) (pgs_cons (pg_name (i := 6) scL.nd rfl (.inr rfl)) (pgs_cons (pg_name (i := 7) scL.nd rfl (.inl rfl)) (pgs_cons (pg_name (i := 8) scL.nd rfl (.inl rfl)) (pgs_cons (pg_name (i := 9) scL.nd rfl (.inl rfl)) (pgs_cons (pg_name (i := 10) scL.nd rfl (.inl rfl)) pgs_nil))))))))
      (pss_cons (ps_if (PW.pt (pw_or (pt_cmpR (op_neD hr.units) (pe_lc (own := [("name", 3)]) (g := gName 3) (by rfl) scL.nd (pi_list (pv 4)) (blkOk_by (own := [("name", 3)]) (N := nL) (sc := defScope sLaw) (by decide +kernel)) (fun _ _ _ _ _ => pg_name (i := 3) scL.nd rfl (Or.inl rfl))
              (fun _ _ _ _ _ => pts_nil) (fun _ _ _ _ _ => pe_meth (pv 5) T.T.cl T.mS GS hr1 T.bS .nil pass0 (pa_cons (pv 3) pa_nil))) (pe_op op_rep (pe_lst (pa_cons pe_bl pa_nil)) (c_len T.B (pv 4))) (nomark _))
          (pw_or1 (pt_cmpR (op_neD hr.units) (pe_lc (own := [("name", 3)]) (g := gName 3) (by rfl) scL.nd (pi_list (pv 4)) (blkOk_by (own := [("name", 3)]) (N := nL) (sc := defScope sLaw) (by decide +kernel)) (fun _ _ _ _ _ => pg_name (i := 3) scL.nd rfl (Or.inl rfl))
              (fun _ _ _ _ _ => pts_nil) (fun _ _ _ _ _ => pe_meth (pv 5) T.T.cl T.mS GS hr1 T.bS .nil pass0 (pa_cons (pv 3) pa_nil))) (pe_op op_rep (pe_lst (pa_cons pe_bl pa_nil)) (c_len T.B (pv 4))) (nomark _))))) (pss_one (ps_ret pe_bl)) pss_nil)
      (pss_cons (ps_set (i := 11) scL.nd rfl (.inl rfl) pe_non)
      (pss_cons (ps_for PassesOwn.never rfl (i_range2 T.B pe_int (c_max2 rfl T.B pe_int (c_min2 rfl T.B (c_len T.B (pv 0)) pe_int))) (pg_name (i := 12) scL.nd rfl (.inl rfl)) htb) hte)))))), ?_⟩
    refine ⟨_, rfl, a, ns, 0, rfl, hsc.seq, hl, fun b H1 e1 nb hb => ?_⟩
    refine ⟨_, rfl, b, 10, rfl, hb, by decide, by decide, fun L H2 names nbl rk f2 b2 nL hL2 hLk hnl hrg => ?_⟩
    have hsc2 : ScL K H2 a (ns.map V.int) := (hsc.keep e1).by fun u q => by
      obtain ⟨g, r, hb'⟩ := hb
      exact f2 _ _ q (ne_of q hb' (by intro z; cases z))
    have dic : ∀ {H' : Hp}, LinksAt K H' L names nbl → ∃ ps : List (Int × V), H' L = some (.dK (ikv ps)) ∧ (ikv ps).map (·.1) = names.map Sum.inl ∧ (ikv ps).length = names.length := fun h => by
      obtain ⟨ps, h1, h2, _⟩ := h.d
      refine ⟨ps, h1, ?_, by rw [← h2, List.length_map, List.length_map]⟩
      rw [← h2]
      unfold ikv
      rw [List.map_map, List.map_map]
      rfl
    obtain ⟨ps2, hd2, hk2, _⟩ := dic hL2
    -- the roots
    refine ⟨_, rfl, L, _, names, rfl, Rd.of hd2, hk2, by omega, fun ys q pm _ nq => ?_⟩
    obtain ⟨H3, e3'⟩ : ∃ X, X = upd H2 q (.lst (ys.map V.int)) := ⟨_, rfl⟩
    rw [← e3']
    have e3 : Same H2 H3 := by rw [e3']; exact Same.new nq
    have hq3 : H3 q = some (.lst (ys.map V.int)) := by rw [e3', upd_same]
    have hqb := b2.ne nq
    have b3 : BoxAt H3 b := by obtain ⟨g, r, h⟩ := b2; exact ⟨g, r, e3 _ _ h⟩
    refine ⟨q, rfl, ⟨_, SqL.of hq3⟩, fun D nD => ?_⟩
    have hDb := b3.ne nD
    refine goI (walkI_list (K := K) (a := q) (ns := ys)) (fun j H' => Fr b H3 H' ∧ BoxAt H' b ∧ ∃ rs : List Int, H' D = some (.lst (rs.map V.int)) ∧ rs.Sublist (ys.take j)) ⟨Fr.of (Same.new nD), b3.up hDb, [], upd_same, List.nil_sublist _⟩ (fun j H' _ h => SqL.of (h.1 _ _ hq3 hqb)) ?_ ?_
    · rintro j hj H4 ⟨f4, b4, rs, hD4, hsub⟩
      have ht : ys.take (j + 1) = ys.take j ++ [ys[j]] := by rw [List.take_succ, List.getElem?_eq_getElem hj]; rfl
      have hrl : rs.length ≤ 10 := by
        have h1 := hsub.length_le
        have h2 : (ys.take j).length ≤ ys.length := by rw [List.length_take]; omega
        have h3 := pm.length_eq
        omega
      refine ⟨rfl, _, rfl, b, 3, rfl, b4, by decide, by decide, fun d H5 d0 d1 f5 b5 => ⟨rfl, _, rfl, ?_⟩⟩
      have hD5 := f5 _ _ hD4 hDb
      by_cases hd : V.int d = V.int 0
      · rw [decide_eq_true hd]
        refine iteT ⟨_, rfl, _, hD5, big (by rw [List.length_map]; omega), (f4.trans f5).put nD, b5.up hDb, rs ++ [ys[j]], by rw [upd_same, List.map_append]; rfl, ?_⟩
        rw [ht]
        exact hsub.append (List.Sublist.refl _)
      · rw [decide_eq_false hd]
        refine iteF ⟨f4.trans f5, b5, rs, hD5, ?_⟩
        rw [ht]
        exact hsub.trans (List.sublist_append_left _ _)
    rintro H4 ⟨f4, b4, rs, hD4, hsub⟩
    rw [List.take_length] at hsub
    have hL4 := (hL2.keep e3).fr f4 b3
    have hsc4 : ScL K H4 a (ns.map V.int) := (hsc2.keep e3).by fun u z => by
      obtain ⟨g, r, h⟩ := b3
      exact f4 _ _ z (ne_of z h (by intro z; cases z))
    have rnd : rs.Nodup := hsub.nodup (pm.nodup_iff.mpr hLk.nd)
    have rsn : ∀ x ∈ rs, x ∈ names := fun x hx => pm.mem_iff.mp (hsub.subset hx)
    have hrl : rs.length ≤ 10 := by
      have h1 := hsub.length_le
      have h3 := pm.length_eq
      omega
    clear hsub f4 b4 hqb b3 hDb nD hq3 e3 e3' pm nq b2 f2 hb nb e1
    -- marks, seen, ..
    intro p dx np ndx nex
    refine ⟨p, dx, rfl, upd_same, fun dm dw H5 hdm hdw M5 kp => ⟨rfl, ?_⟩⟩
    have s40 : Same H4 (upd (upd H4 dx (.own p)) p (.ins T.C dx [])) := ((Same.refl H4).up ndx).put np
    have e5 : Same H4 H5 := fun c o z => kp c o (s40 c o z) (ne_of_none z np)
    have ndm4 : H4 dm = none := s40.free hdm
    have ndw4 : H4 dw = none := s40.free hdw
    obtain ⟨ps4, hd4, _, _⟩ := dic hL4
    have hLm : L ≠ dm := ne_of_none hd4 ndm4
    have hLw : L ≠ dw := ne_of_none hd4 ndw4
    refine ⟨_, rfl, _, rfl, L, D, names, rs, nbl, rfl, hL4.keep e5, SqL.of (e5 _ _ hD4), by omega, by omega, fun n hn => Nat.le_trans (hLk.few n hn) (by decide), hLk.cl, rsn, fun r H6 q6 e6 nq6 hq6 hrrl hr => ?_⟩
    have e56 := e5.trans e6
    obtain ⟨ps6, hd6, _, hlen6⟩ := dic (hL4.keep e56)
    refine ⟨_, rfl, L, _, rfl, hd6, (by show 6 ≤ sizeLine; decide), fun tp ntp => ⟨tp, _, rfl, SqT.of upd_same, rfl, _, _, rfl, _, _, rfl, _, _, rfl, _, _, rfl, _, _, rfl, _, _, rfl, rfl, ?_⟩⟩
    obtain ⟨H7, e7''⟩ : ∃ X, X = upd H6 tp (.tup [.ref p, .ref q6, .int ((ikv ps6).length : Nat), .int 0, .int 0, .int 0]) := ⟨_, rfl⟩
    rw [← e7'']
    have e7' : Same H6 H7 := by rw [e7'']; exact Same.new ntp
    have e7 := e56.trans e7'
    have M7 := M5.keep (e6.trans e7')
    have hD7 := e7 _ _ hD4
    have hq7 := e7' _ _ hq6
    have hL7 := hL4.keep e7
    have hsc7 := hsc4.keep e7
    -- all are shaded
    refine ⟨_, rfl, D, rfl, ⟨_, SqL.of hD7⟩, fun D1 nD1 => ?_⟩
    have hD1m : D1 ≠ dm := (ne_of_none M7.m nD1).symm
    have hD1w : D1 ≠ dw := (ne_of_none M7.w nD1).symm
    refine goI (walkI_list (K := K) (a := D) (ns := rs)) (fun j H' => Fr2 dm dw H7 H' ∧ MarksAt T.C H' p dm dw (rs.take j) (rs.take j) ∧ H' D1 = some (.lst (List.replicate j (V.bl true)))) ⟨Fr2.of (Same.new nD1), M7.keep (Same.new nD1), upd_same⟩ (fun j H' _ h => SqL.of (M7.lst h.1 hD7)) ?_ ?_
    · rintro j hj H8 ⟨f8, M8, hD8⟩
      have ht : rs.take (j + 1) = rs.take j ++ [rs[j]] := by rw [List.take_succ, List.getElem?_eq_getElem hj]; rfl
      have hnt : rs[j] ∉ rs.take j := fun hin => by
        have : (rs.take j ++ [rs[j]]).Nodup := by rw [← ht]; exact rnd.sublist (List.take_sublist _ _)
        rw [List.nodup_append] at this
        exact this.2.2 _ hin _ (List.mem_singleton.mpr rfl) rfl
      have htl : (rs.take j).length ≤ 10 := by rw [List.length_take]; omega
      obtain ⟨dx8, hob8⟩ := M8.ob
      refine ⟨rfl, _, rfl, p, dx8, _, rfl, hob8, flds_no _ _ (by decide +kernel) (by decide +kernel), _, rfl, p, dm, dw, rs.take j, rs.take j, rs[j], rfl, M8, by omega, by omega, id, fun h => absurd h hnt, fun _ H9 f9 M9 => ?_⟩
      have hD9 := f9 _ _ hD8 hD1m hD1w
      have pD1 : p ≠ D1 := M9.ob.elim fun dx z => ne_of z hD9 (by intro z; cases z)
      refine ⟨_, hD9, big (by rw [List.length_replicate]; omega), (f8.trans f9).put nD1, ?_, ?_⟩
      · rw [ht]
        exact ⟨by rw [upd_ne pD1]; exact M9.ob, by rw [upd_ne hD1m.symm]; exact M9.m, by rw [upd_ne hD1w.symm]; exact M9.w, M9.ne⟩
      · rw [upd_same, List.replicate_succ']
    rintro H8 ⟨f8, M8, hD8⟩
    rw [List.take_length] at M8
    have hDl : H8 D = some (.lst (rs.map V.int)) := M7.lst f8 hD7
    have hq8 := M7.lst f8 hq7
    have hL8 := M7.links f8 hL7 hLm hLw
    have hsc8 := M7.scL f8 hsc7
    have kz : ((rs.map V.int).length : Int).toNat = rs.length := by rw [List.length_map]; rfl
    -- == [True] * len(roots)
    refine ⟨sz1, fun u nu => ⟨_, rfl, D, _, rfl, .inl (SqL.of (Same.at nu hDl)), u, _, [V.bl true], rfl, rfl, upd_same, by omega, by rw [List.length_map]; omega, ?_, fun v nv => ?_⟩⟩
    · rw [kz]
      exact Nat.le_of_lt (big (by simp; omega))
    rw [kz, rep_flat]
    refine ⟨_, _, .lst (SqL.of (Same.at nv (Same.at nu hD8))) (dp_bools true rs.length), .lst (SqL.of upd_same) (dp_bools true rs.length), shaped_bools _ _, shaped_bools _ _, _, rfl, ?_⟩
    rw [show PyData.eqv (.list (dBools rs.length true)) (.list (dBools rs.length true)) = true from eqv_bools true rs.length]
    refine iteF ?_
    have e9 := ((Same.refl H8).up nu (o := .lst [.bl true])).up nv (o := .lst (List.replicate rs.length (V.bl true)))
    generalize upd (upd H8 u (.lst [.bl true])) v (.lst (List.replicate rs.length (V.bl true))) = H9 at e9 ⊢
    have M9 := M8.keep e9
    have hDl9 := e9 _ _ hDl
    -- again: none is new
    refine ⟨_, rfl, D, rfl, ⟨_, SqL.of hDl9⟩, fun D2 nD2 => ?_⟩
    refine lcF (walkI_list (K := K) (a := D) (ns := rs)) (fun _ => true) (fun _ => .bl false) nD2 (big (by omega)) (fun H' e => SqL.of (e _ _ hDl9)) ?_ ?_
    · intro n H' acc N hn e hD hacc kt kf
      have M' := M9.keep e
      obtain ⟨dx', hob'⟩ := M'.ob
      exact ⟨rfl, _, rfl, p, dx', _, rfl, hob', flds_no _ _ (by decide +kernel) (by decide +kernel), _, rfl, p, dm, dw, rs, rs, n, rfl, M', by omega, by omega, id, fun _ => ⟨_, hD, hacc, kt rfl _ (Same.refl _)⟩, fun h => absurd hn h⟩
    intro Ha ea hDa
    rw [List.filter_eq_self.mpr fun _ _ => rfl, map_bl false rs] at hDa
    have hDla := ea _ _ hDl9
    refine ⟨sz1, fun u nu => ⟨_, rfl, D, _, rfl, .inl (SqL.of (Same.at nu hDla)), u, _, [V.bl false], rfl, rfl, upd_same, by omega, by rw [List.length_map]; omega, ?_, fun v nv => ?_⟩⟩
    · rw [kz]
      exact Nat.le_of_lt (big (by simp; omega))
    rw [kz, rep_flat]
    refine ⟨_, _, .lst (SqL.of (Same.at nv (Same.at nu hDa))) (dp_bools false rs.length), .lst (SqL.of upd_same) (dp_bools false rs.length), shaped_bools _ _, shaped_bools _ _, _, rfl, ?_⟩
    rw [show PyData.eqv (.list (dBools rs.length false)) (.list (dBools rs.length false)) = true from eqv_bools false rs.length]
    refine iteF ?_
    have eb := ((e9.trans ea).up nu (o := .lst [.bl false])).up nv (o := .lst (List.replicate rs.length (V.bl false)))
    generalize upd (upd Ha u (.lst [.bl false])) v (.lst (List.replicate rs.length (V.bl false))) = Hb at eb ⊢
    -- the loop
    have I0 : LI K T.C a ns 0 ⟨L, D, p, dm, dw, q6, names, nbl, rk, rs, rs, rs, r, ((ikv ps6).length : Nat), 0, 0, 0, none⟩ Hb :=
      { sc := hsc8.keep eb, nl := hl, ln := hL8.keep eb, lk := hLk, ra := eb _ _ hDl, rnd := rnd, il := by decide, rm := fun x hx => hx, mks := M8.keep eb, lm := hLm, lw := hLw, mnd := rnd, wnd := rnd, wm := fun x hx => hx, mn := rsn, mc := fun x hx hxw => absurd hx hxw, sn := eb _ _ hq8, sl := by show r.length ≤ 30 * (0 + 1); omega,
        ms_sn := fun x hx => (hr x).mpr (.base hx), sc_cl := fun x hx _ y hy => (hr y).mpr (.step ((hr x).mp hx) hy), n1 := by show (names.length : Int) = ((ikv ps6).length : Int) + 0 - 0; omega, n2 := by show (0 : Int) = (rs.length : Int) - (rs.length : Int); omega, p0 := Int.le_refl 0, p1 := (by show (0 : Int) ≤ 12; decide), t0 := Int.le_refl 0, a1 := by show ((ikv ps6).length : Int) ≤ 10; omega,
        rg := fun x hx => .inl (hrg x hx), od := fun _ _ z => by cases z }
    obtain ⟨hb1, hb2⟩ := hi_bounds (ns.map V.int).length
    refine ⟨_, rfl, a, _, rfl, .inl (hsc8.keep eb).seq, _, _, rfl, _, _, rfl, _, _, rfl, ⟨by omega, by omega, by omega, by omega⟩, ?_⟩
    refine for_range (lo := 1) (n := _) (fun i σ H' => ∃ (b : Addr) (s : Stt) (x3 x12 x13 x14 x15 : Option V), σ = SL a b s x3 x12 x13 x14 x15 ∧ LI K T.C a ns i s H') ⟨b, _, none, none, none, none, none, rfl, I0⟩ ?_ ?_
    · rintro i σ H' hi ⟨b', s, x3, x12, x13, x14, x15, rfl, I⟩
      exact hqb _ a b' ns i s x3 x13 x14 x15 H' I (by omega) fun b'' s' H'' x3' x13' x14' x15' I' => ⟨b'', s', x3', _, x13', x14', x15', rfl, I'⟩
    · rintro σ H' ⟨b', s, x3, x12, x13, x14, x15, rfl, I⟩
      exact hqe _ a b' ns _ s x3 x12 x13 x14 x15 H' I fun H'' => kq H''
end
end K52
namespace K52
open PySem L2
theorem law_sp {K : PySem.W.Frag} {H : Hp} {a : Addr} {ns : List Int} (hl : ns.length ≤ 63) (hO : Only H) (hS : SqL K H a (ns.map V.int)) : spLaw K [.ref a] H (fun v _ => v = .bl true) fun _ _ _ => False := by
  refine ⟨a, ns, rfl, ?_, hl, fun _ => rfl⟩
  rcases hS with (h | ⟨o, h⟩) | h
  · rcases hO a with n | ⟨ob, xs, z⟩
    · rw [n] at h; cases h
    · rw [z] at h; cases h
  · exact .inl ⟨o, h⟩
  · exact .inr h
theorem all_mk {w : World} {K : PySem.W.Frag} {h : Heap} {mg : Str → Option Value} {fa : Addr} (X : K.In h) (G : h.Ns mainGlobals mg) (hfa : mg "law" = some (.ref fa))
    {f_bx : Addr} {od_bx an_bx : Option Addr} {sl_bx : Array (Option Value)} {oc_bx kV_bx dc_bx pm_bx cd_bx ct_bx : Value}
    {f_tk : Addr} {od_tk an_tk : Option Addr} {sl_tk : Array (Option Value)} {oc_tk kV_tk dc_tk pm_tk cd_tk ct_tk : Value}
    {f_pk : Addr} {od_pk an_pk : Option Addr} {sl_pk : Array (Option Value)} {oc_pk kV_pk dc_pk pm_pk cd_pk ct_pk : Value}
    {f_lk : Addr} {od_lk an_lk : Option Addr} {sl_lk : Array (Option Value)} {oc_lk kV_lk dc_lk pm_lk cd_lk ct_lk : Value}
    {f_rd : Addr} {od_rd an_rd : Option Addr} {sl_rd : Array (Option Value)} {oc_rd kV_rd dc_rd pm_rd cd_rd ct_rd : Value}
    {f_ho : Addr} {od_ho an_ho : Option Addr} {sl_ho : Array (Option Value)} {oc_ho kV_ho dc_ho pm_ho cd_ho ct_ho : Value}
    {f_jr : Addr} {od_jr an_jr : Option Addr} {sl_jr : Array (Option Value)} {oc_jr kV_jr dc_jr pm_jr cd_jr ct_jr : Value}
    {f_nw : Addr} {od_nw an_nw : Option Addr} {sl_nw : Array (Option Value)} {oc_nw kV_nw dc_nw pm_nw cd_nw ct_nw : Value}
    {f_to : Addr} {od_to an_to : Option Addr} {sl_to : Array (Option Value)} {oc_to kV_to dc_to pm_to cd_to ct_to : Value}
    {f_mh : Addr} {od_mh an_mh : Option Addr} {sl_mh : Array (Option Value)} {oc_mh kV_mh dc_mh pm_mh cd_mh ct_mh : Value}
    {f_is : Addr} {od_is an_is : Option Addr} {sl_is : Array (Option Value)} {oc_is kV_is dc_is pm_is cd_is ct_is : Value}
    {f_law : Addr} {od_law an_law : Option Addr} {sl_law : Array (Option Value)} {oc_law kV_law dc_law pm_law cd_law ct_law : Value}
    {C : Addr}
    {f_M : Addr} {od_M an_M : Option Addr} {sl_M : Array (Option Value)} {oc_M kV_M dc_M pm_M cd_M ct_M : Value}
    {f_S : Addr} {od_S an_S : Option Addr} {sl_S : Array (Option Value)} {oc_S kV_S dc_S pm_S cd_S ct_S : Value}
    {f_F : Addr} {od_F an_F : Option Addr} {sl_F : Array (Option Value)} {oc_F kV_F dc_F pm_F cd_F ct_F : Value}
    {f_L : Addr} {od_L an_L : Option Addr} {sl_L : Array (Option Value)} {oc_L kV_L dc_L pm_L cd_L ct_L : Value}
    {R CK fE cda cc : Addr} {nm q : Str} {N : Addr} {bs bm : List Value} {sn : List Str} {sub : List Value} {ab : Bool} {col : Option Bool} {dd : Option Addr} {m0 m1 m2 m3 m5 : Option Value}
    {nmK qK : Str} {NK : Addr} {bsK bmK : List Value} {snK : List Str} {subK : List Value} {abK : Bool} {colK : Option Bool} {ddK : Option Addr} {mK0 mK1 mK2 mK3 mK5 : Option Value}
    {ocE dcE pmE ctE : Value} {odE anE : Option Addr} {slE : Array (Option Value)} {ccl : Value} {cdd : Option Addr} {vs : Array Value} {ccs : Array (Option Value)} {file : Str} {tf : Tok} {cl : Value} {cld : Option Addr} {csl : Array (Option Value)}
    (a_bx : PySem.W.nsIn K mainGlobals "_law_box" = some (some (.ref f_bx)))
    (l_bx : K.lookup f_bx = some ⟨oc_bx, od_bx, .func (PySem.W.fnOf "_law_box" "_law_box" (defArgs sBox) (defBody sBox) (defScope sBox) .none kV_bx dc_bx pm_bx an_bx cd_bx ct_bx), sl_bx⟩)
    (c_bx : PySem.W.codeIn K cd_bx "_law_box" = true)
    (k_bx : PySem.W.keepIn K (.ref f_bx) = true)
    (a_tk : PySem.W.nsIn K mainGlobals "_law_take" = some (some (.ref f_tk)))
    (l_tk : K.lookup f_tk = some ⟨oc_tk, od_tk, .func (PySem.W.fnOf "_law_take" "_law_take" (defArgs sTake) (defBody sTake) (defScope sTake) .none kV_tk dc_tk pm_tk an_tk cd_tk ct_tk), sl_tk⟩)
    (c_tk : PySem.W.codeIn K cd_tk "_law_take" = true)
    (k_tk : PySem.W.keepIn K (.ref f_tk) = true)
    (a_pk : PySem.W.nsIn K mainGlobals "_law_pick" = some (some (.ref f_pk)))
    (l_pk : K.lookup f_pk = some ⟨oc_pk, od_pk, .func (PySem.W.fnOf "_law_pick" "_law_pick" (defArgs sPick) (defBody sPick) (defScope sPick) .none kV_pk dc_pk pm_pk an_pk cd_pk ct_pk), sl_pk⟩)
    (c_pk : PySem.W.codeIn K cd_pk "_law_pick" = true)
    (k_pk : PySem.W.keepIn K (.ref f_pk) = true)
    (a_lk : PySem.W.nsIn K mainGlobals "_law_links" = some (some (.ref f_lk)))
    (l_lk : K.lookup f_lk = some ⟨oc_lk, od_lk, .func (PySem.W.fnOf "_law_links" "_law_links" (defArgs sLinks) (defBody sLinks) (defScope sLinks) .none kV_lk dc_lk pm_lk an_lk cd_lk ct_lk), sl_lk⟩)
    (c_lk : PySem.W.codeIn K cd_lk "_law_links" = true)
    (k_lk : PySem.W.keepIn K (.ref f_lk) = true)
    (a_rd : PySem.W.nsIn K mainGlobals "_law_reached" = some (some (.ref f_rd)))
    (l_rd : K.lookup f_rd = some ⟨oc_rd, od_rd, .func (PySem.W.fnOf "_law_reached" "_law_reached" (defArgs sReached) (defBody sReached) (defScope sReached) .none kV_rd dc_rd pm_rd an_rd cd_rd ct_rd), sl_rd⟩)
    (c_rd : PySem.W.codeIn K cd_rd "_law_reached" = true)
    (k_rd : PySem.W.keepIn K (.ref f_rd) = true)
    (a_ho : PySem.W.nsIn K mainGlobals "_law_hold" = some (some (.ref f_ho)))
    (l_ho : K.lookup f_ho = some ⟨oc_ho, od_ho, .func (PySem.W.fnOf "_law_hold" "_law_hold" (defArgs sHold) (defBody sHold) (defScope sHold) .none kV_ho dc_ho pm_ho an_ho cd_ho ct_ho), sl_ho⟩)
    (c_ho : PySem.W.codeIn K cd_ho "_law_hold" = true)
    (k_ho : PySem.W.keepIn K (.ref f_ho) = true)
    (a_jr : PySem.W.nsIn K mainGlobals "_law_judged_right" = some (some (.ref f_jr)))
    (l_jr : K.lookup f_jr = some ⟨oc_jr, od_jr, .func (PySem.W.fnOf "_law_judged_right" "_law_judged_right" (defArgs sJ) (defBody sJ) (defScope sJ) .none kV_jr dc_jr pm_jr an_jr cd_jr ct_jr), sl_jr⟩)
    (c_jr : PySem.W.codeIn K cd_jr "_law_judged_right" = true)
    (k_jr : PySem.W.keepIn K (.ref f_jr) = true)
    (a_nw : PySem.W.nsIn K mainGlobals "_law_not_waiting" = some (some (.ref f_nw)))
    (l_nw : K.lookup f_nw = some ⟨oc_nw, od_nw, .func (PySem.W.fnOf "_law_not_waiting" "_law_not_waiting" (defArgs sNW) (defBody sNW) (defScope sNW) .none kV_nw dc_nw pm_nw an_nw cd_nw ct_nw), sl_nw⟩)
    (c_nw : PySem.W.codeIn K cd_nw "_law_not_waiting" = true)
    (k_nw : PySem.W.keepIn K (.ref f_nw) = true)
    (a_to : PySem.W.nsIn K mainGlobals "taking_order" = some (some (.ref f_to)))
    (l_to : K.lookup f_to = some ⟨oc_to, od_to, .func (PySem.W.fnOf "taking_order" "taking_order" (defArgs sTO) (defBody sTO) (defScope sTO) .none kV_to dc_to pm_to an_to cd_to ct_to), sl_to⟩)
    (c_to : PySem.W.codeIn K cd_to "taking_order" = true)
    (k_to : PySem.W.keepIn K (.ref f_to) = true)
    (a_mh : PySem.W.nsIn K mainGlobals "marks_hold" = some (some (.ref f_mh)))
    (l_mh : K.lookup f_mh = some ⟨oc_mh, od_mh, .func (PySem.W.fnOf "marks_hold" "marks_hold" (defArgs sMH) (defBody sMH) (defScope sMH) .none kV_mh dc_mh pm_mh an_mh cd_mh ct_mh), sl_mh⟩)
    (c_mh : PySem.W.codeIn K cd_mh "marks_hold" = true)
    (k_mh : PySem.W.keepIn K (.ref f_mh) = true)
    (a_is : PySem.W.nsIn K mainGlobals "is_sequence" = some (some (.ref f_is)))
    (l_is : K.lookup f_is = some ⟨oc_is, od_is, .func (PySem.W.fnOf "is_sequence" "is_sequence" (defArgs sIsq) (defBody sIsq) (defScope sIsq) .none kV_is dc_is pm_is an_is cd_is ct_is), sl_is⟩)
    (c_is : PySem.W.codeIn K cd_is "is_sequence" = true)
    (k_is : PySem.W.keepIn K (.ref f_is) = true)
    (a_law : PySem.W.nsIn K mainGlobals "law" = some (some (.ref f_law)))
    (l_law : K.lookup f_law = some ⟨oc_law, od_law, .func (PySem.W.fnOf "law" "law" (defArgs sLaw) (defBody sLaw) (defScope sLaw) .none kV_law dc_law pm_law an_law cd_law ct_law), sl_law⟩)
    (c_law : PySem.W.codeIn K cd_law "law" = true)
    (k_law : PySem.W.keepIn K (.ref f_law) = true)
    (aC : PySem.W.nsIn K mainGlobals "Marks" = some (some (.ref C)))
    (a_M : PySem.W.findIn K (.ref C) "__init__" = some (some (.ref f_M)))
    (i_M : PySem.W.isFn K (.ref f_M) = true)
    (l_M : K.lookup f_M = some ⟨oc_M, od_M, .func (PySem.W.fnOf "__init__" "Marks.__init__" (defArgs sMI) (defBody sMI) (defScope sMI) .none kV_M dc_M pm_M an_M cd_M ct_M), sl_M⟩)
    (c_M : PySem.W.codeIn K cd_M "Marks.__init__" = true)
    (k_M : PySem.W.keepIn K (.ref f_M) = true)
    (a_S : PySem.W.findIn K (.ref C) "shade" = some (some (.ref f_S)))
    (i_S : PySem.W.isFn K (.ref f_S) = true)
    (l_S : K.lookup f_S = some ⟨oc_S, od_S, .func (PySem.W.fnOf "shade" "Marks.shade" (defArgs sMS) (defBody sMS) (defScope sMS) .none kV_S dc_S pm_S an_S cd_S ct_S), sl_S⟩)
    (c_S : PySem.W.codeIn K cd_S "Marks.shade" = true)
    (k_S : PySem.W.keepIn K (.ref f_S) = true)
    (a_F : PySem.W.findIn K (.ref C) "first" = some (some (.ref f_F)))
    (i_F : PySem.W.isFn K (.ref f_F) = true)
    (l_F : K.lookup f_F = some ⟨oc_F, od_F, .func (PySem.W.fnOf "first" "Marks.first" (defArgs sMF) (defBody sMF) (defScope sMF) .none kV_F dc_F pm_F an_F cd_F ct_F), sl_F⟩)
    (c_F : PySem.W.codeIn K cd_F "Marks.first" = true)
    (k_F : PySem.W.keepIn K (.ref f_F) = true)
    (a_L : PySem.W.findIn K (.ref C) "look" = some (some (.ref f_L)))
    (i_L : PySem.W.isFn K (.ref f_L) = true)
    (l_L : K.lookup f_L = some ⟨oc_L, od_L, .func (PySem.W.fnOf "look" "Marks.look" (defArgs sML) (defBody sML) (defScope sML) .none kV_L dc_L pm_L an_L cd_L ct_L), sl_L⟩)
    (c_L : PySem.W.codeIn K cd_L "Marks.look" = true)
    (k_L : PySem.W.keepIn K (.ref f_L) = true)
    (pg : PySem.W.plainGet K C Str.empty = true)
    (hd : PySem.W.hasDictIn K C = true)
    (po : PySem.W.plainOver K C = true)
    (sa : PySem.W.findIn K (.ref C) "__setattr__" = some (some (.builtin "object.__setattr__")))
    (mk : PySem.W.makesIn K C = true)
    (kc : PySem.W.keepIn K (.ref C) = true)
    (nM : PySem.W.findIn K (.ref C) "marked" = some none)
    (nW : PySem.W.findIn K (.ref C) "waiting" = some none)
    (z_len : PySem.W.nsIn K mainGlobals "len" = some none)
    (z_abs : PySem.W.nsIn K mainGlobals "abs" = some none)
    (z_int : PySem.W.nsIn K mainGlobals "int" = some none)
    (z_range : PySem.W.nsIn K mainGlobals "range" = some none)
    (z_sorted : PySem.W.nsIn K mainGlobals "sorted" = some none)
    (z_set : PySem.W.nsIn K mainGlobals "set" = some none)
    (z_list : PySem.W.nsIn K mainGlobals "list" = some none)
    (z_tuple : PySem.W.nsIn K mainGlobals "tuple" = some none)
    (z_repr : PySem.W.nsIn K mainGlobals "repr" = some none)
    (z_max : PySem.W.nsIn K mainGlobals "max" = some none)
    (z_min : PySem.W.nsIn K mainGlobals "min" = some none)
    (z_isinstance : PySem.W.nsIn K mainGlobals "isinstance" = some none)
    (z_all : PySem.W.nsIn K mainGlobals "all" = some none)
    (z_super : PySem.W.nsIn K mainGlobals "super" = some none)
    (aR : PySem.W.nsIn K mainGlobals "Refused" = some (some (.ref R)))
    (aK : PySem.W.nsIn K mainGlobals "KeepError" = some (some (.ref CK)))
    (xR : K.lookup R = some (excClassObj nm q R N bs bm true sn sub ab col dd m0 m1 m2 m3 m5 "ValueError.__new__"))
    (rv : PySem.HandSPX.refsVE bm = true)
    (xK : K.lookup CK = some (excClassObj nmK qK CK NK bsK bmK true snK subK abK colK ddK mK0 mK1 mK2 mK3 mK5 "ValueError.__new__"))
    (bmE : bm = .ref CK :: bmK)
    (fiK : PySem.W.findIn K (.ref CK) "__init__" = some (some (.builtin "ValueError.__init__")))
    (esa : PySem.W.findIn K (.ref R) "__setattr__" = some (some (.builtin "object.__setattr__")))
    (ega : PySem.W.findIn K (.ref R) "__getattribute__" = some (some (.builtin "BaseException.__getattribute__")))
    (egg : PySem.W.findIn K (.ref R) "__getattr__" = some none)
    (eno : PySem.W.findIn K (.ref R) "at" = some none)
    (eiC : PySem.W.findIn K (.ref R) "__init__" = some (some (.ref fE)))
    (etC : PySem.W.typeIn K (.ref fE) = some (.type "function"))
    (ekC : PySem.W.keepIn K (.ref R) = true)
    (eex : PySem.W.subIn K (.ref R) (.type "BaseException") = some true)
    (eve : PySem.W.subIn K (.ref R) (.type "ValueError") = some true)
    (eow : PySem.W.mroIn K R (.ref R) = some true)
    (ety : PySem.W.typeIn K (.ref R) = some (.type "type"))
    (ehd : PySem.W.hasDictIn K R = true)
    (ete : PySem.W.exmOne K (.ref R) (.ref R) = some true)
    (eop : PySem.W.nsIn K cStatics "thirdparty.any" = some none)
    (efn : K.lookup fE = some ⟨ocE, odE, .func (PySem.W.ksFn "__init__" "Refused.__init__" (PySem.KwE.eA ⟨6, 17, 6, 21⟩ ⟨6, 23, 6, 25⟩) (PySem.KwE.eB "no such value here" ⟨⟨7, 8, 7, 13⟩, ⟨7, 8, 7, 15⟩, ⟨7, 8, 7, 24⟩, ⟨7, 25, 7, 45⟩, ⟨7, 8, 7, 46⟩, ⟨7, 8, 7, 46⟩, ⟨8, 8, 8, 12⟩, ⟨8, 8, 8, 15⟩, ⟨8, 18, 8, 20⟩, ⟨8, 8, 8, 20⟩⟩) PySem.KwE.eS .none .none dcE pmE anE (.ref cda) ctE cc), slE⟩)
    (eco : PySem.W.codeIn K (.ref cda) "Refused.__init__" = true)
    (ecl : K.lookup cda = some ⟨ccl, cdd, .fields vs, ccs⟩)
    (ev2 : vs[2]? = some (.str file tf))
    (efe : ((PySem.Challenge.rw_keptwhole_k52_whole_marks_amid_other_dee.prog.main.file : Str) == file) = true)
    (ecc : K.lookup cc = some ⟨cl, cld, .cell (some (.ref R)), csl⟩)
    (scl : PySem.W.isClsIn K R = true)
    (sha : PySem.W.findIn K (.ref R) "__class__" = some (some (.builtin "object.__class__")))
    (shn : PySem.W.specialIn K (.builtin "object.__class__") "__get__" = some (some (.builtin "getset_descriptor.__get__")))
    (sht : PySem.W.takesIn K (.builtin "object.__class__") = some true)
    (shm : PySem.W.mroIn K R (.type "object") = some true)
    (ckl : PySem.W.isClsIn K CK = true)
    (ckt : PySem.W.typeIn K (.ref CK) = some (.type "type"))
    (cks : PySem.W.subIn K (.ref R) (.ref CK) = some true) :
    ∃ fd : FuncData, (∀ (s : Shared) (v : Value), BindsTo s fd ⟨[v], []⟩ [("script", v)]) ∧ ∀ base : Heap, K.In base → base.Ns mainGlobals mg → FnG PySem.Challenge.rw_keptwhole_k52_whole_marks_amid_other_dee.prog w K mg base CX0 5 fa fd ["script"] (spLaw K) := by
  have e := hfa.symm.trans (PySem.W.mg_of X G a_law)
  cases e
  have F_bx := fun_mk (st := sBox) l_bx c_bx k_bx
  have D_bx : Df K mg "_law_box" sBox ["script", "k"] := ⟨_, _, F_bx, PySem.W.mg_of X G a_bx, k_bx, F_bx.binds (ps := ["script", "k"]) fun _ _ _ _ _ _ us hl => match us, hl with | [_, _], _ => rfl⟩
  have F_tk := fun_mk (st := sTake) l_tk c_tk k_tk
  have D_tk : Df K mg "_law_take" sTake ["box", "many"] := ⟨_, _, F_tk, PySem.W.mg_of X G a_tk, k_tk, F_tk.binds (ps := ["box", "many"]) fun _ _ _ _ _ _ us hl => match us, hl with | [_, _], _ => rfl⟩
  have F_pk := fun_mk (st := sPick) l_pk c_pk k_pk
  have D_pk : Df K mg "_law_pick" sPick ["box", "some"] := ⟨_, _, F_pk, PySem.W.mg_of X G a_pk, k_pk, F_pk.binds (ps := ["box", "some"]) fun _ _ _ _ _ _ us hl => match us, hl with | [_, _], _ => rfl⟩
  have F_lk := fun_mk (st := sLinks) l_lk c_lk k_lk
  have D_lk : Df K mg "_law_links" sLinks ["box", "most"] := ⟨_, _, F_lk, PySem.W.mg_of X G a_lk, k_lk, F_lk.binds (ps := ["box", "most"]) fun _ _ _ _ _ _ us hl => match us, hl with | [_, _], _ => rfl⟩
  have F_rd := fun_mk (st := sReached) l_rd c_rd k_rd
  have D_rd : Df K mg "_law_reached" sReached ["links", "starts"] := ⟨_, _, F_rd, PySem.W.mg_of X G a_rd, k_rd, F_rd.binds (ps := ["links", "starts"]) fun _ _ _ _ _ _ us hl => match us, hl with | [_, _], _ => rfl⟩
  have F_ho := fun_mk (st := sHold) l_ho c_ho k_ho
  have D_ho : Df K mg "_law_hold" sHold ["links", "roots", "marked", "waiting"] := ⟨_, _, F_ho, PySem.W.mg_of X G a_ho, k_ho, F_ho.binds (ps := ["links", "roots", "marked", "waiting"]) fun _ _ _ _ _ _ us hl => match us, hl with | [_, _, _, _], _ => rfl⟩
  have F_jr := fun_mk (st := sJ) l_jr c_jr k_jr
  have D_jr : Df K mg "_law_judged_right" sJ ["box", "links", "roots", "marks"] := ⟨_, _, F_jr, PySem.W.mg_of X G a_jr, k_jr, F_jr.binds (ps := ["box", "links", "roots", "marks"]) fun _ _ _ _ _ _ us hl => match us, hl with | [_, _, _, _], _ => rfl⟩
  have F_nw := fun_mk (st := sNW) l_nw c_nw k_nw
  have D_nw : Df K mg "_law_not_waiting" sNW ["marks"] := ⟨_, _, F_nw, PySem.W.mg_of X G a_nw, k_nw, F_nw.binds (ps := ["marks"]) fun _ _ _ _ _ _ us hl => match us, hl with | [_], _ => rfl⟩
  have F_to := fun_mk (st := sTO) l_to c_to k_to
  have D_to : Df K mg "taking_order" sTO ["links", "names"] := ⟨_, _, F_to, PySem.W.mg_of X G a_to, k_to, F_to.binds (ps := ["links", "names"]) fun _ _ _ _ _ _ us hl => match us, hl with | [_, _], _ => rfl⟩
  have F_mh := fun_mk (st := sMH) l_mh c_mh k_mh
  have D_mh : Df K mg "marks_hold" sMH ["links", "roots", "marked", "waiting"] := ⟨_, _, F_mh, PySem.W.mg_of X G a_mh, k_mh, F_mh.binds (ps := ["links", "roots", "marked", "waiting"]) fun _ _ _ _ _ _ us hl => match us, hl with | [_, _, _, _], _ => rfl⟩
  have F_is := fun_mk (st := sIsq) l_is c_is k_is
  have D_is : Df K mg "is_sequence" sIsq ["value"] := ⟨_, _, F_is, PySem.W.mg_of X G a_is, k_is, F_is.binds (ps := ["value"]) fun _ _ _ _ _ _ us hl => match us, hl with | [_], _ => rfl⟩
  have F_M := fun_mk (st := sMI) l_M c_M k_M
  have b_M := F_M.binds (ps := ["self"]) fun _ _ _ _ _ _ us hl => match us, hl with | [_], _ => rfl
  have F_S := fun_mk (st := sMS) l_S c_S k_S
  have b_S := F_S.binds (ps := ["self", "name"]) fun _ _ _ _ _ _ us hl => match us, hl with | [_, _], _ => rfl
  have F_F := fun_mk (st := sMF) l_F c_F k_F
  have b_F := F_F.binds (ps := ["self"]) fun _ _ _ _ _ _ us hl => match us, hl with | [_], _ => rfl
  have F_L := fun_mk (st := sML) l_L c_L k_L
  have b_L := F_L.binds (ps := ["self", "name", "links"]) fun _ _ _ _ _ _ us hl => match us, hl with | [_, _, _], _ => rfl
  have F_law := fun_mk (st := sLaw) l_law c_law k_law
  have B : Blt mg := ⟨PySem.W.mg_none_of X G z_len, PySem.W.mg_none_of X G z_abs, PySem.W.mg_none_of X G z_int, PySem.W.mg_none_of X G z_range, PySem.W.mg_none_of X G z_sorted, PySem.W.mg_none_of X G z_set, PySem.W.mg_none_of X G z_list, PySem.W.mg_none_of X G z_tuple, PySem.W.mg_none_of X G z_repr, PySem.W.mg_none_of X G z_max, PySem.W.mg_none_of X G z_min, PySem.W.mg_none_of X G z_isinstance, PySem.W.mg_none_of X G z_all⟩
  have T : MTxt K mg C := ⟨⟨pg, hd, po, sa⟩, nM, nW, PySem.W.mg_of X G aC, B.min, B.tuple⟩
  have al : PySem.W.alongIn K "__init__" bm = some (some (.builtin "ValueError.__init__")) := by
    have h1 : PySem.W.findIn K (.ref CK) "__init__" = (match K.lookup CK with
      | some ⟨_, _, .cls cd, _⟩ => PySem.W.alongIn K "__init__" cd.mro
      | _ => none) := rfl
    rw [xK] at h1
    rw [bmE, ← fiK, h1]
  have skt : PySem.W.kitOne K (.ref R) (.ref CK) = some true := by
    unfold PySem.W.kitOne
    split
    · rfl
    · show (if ((PySem.W.clsIn K CK).isSome && PySem.W.typeIn K (.ref CK) == some (.type "type")) = true then PySem.W.subIn K (.ref R) (.ref CK) else none) = some true
      rw [show (PySem.W.clsIn K CK).isSome = true from ckl, ckt, if_pos (by rfl)]
      exact cks
  have R0 : KwE.ErrTxt PySem.Challenge.rw_keptwhole_k52_whole_marks_amid_other_dee.prog K mg "Refused" R fE := { gC := PySem.W.mg_of X G aR, gS := PySem.W.mg_none_of X G z_super, cls := ⟨nm, q, N, bs, bm, sn, sub, ab, col, dd, m0, m1, m2, m3, m5, xR, rv, al⟩, sa := esa, ga := ega, gg := egg, noN := eno, iC := eiC, tC := etC, kC := ekC, exC := eex, veC := eve, ownC := eow, tyC := ety, hdC := ehd, te := ete, op := eop, top := by decide +kernel, fn := ⟨_, _, _, _, _, _, _, _, _, _, _, _, _, _, efn, eco, rfl, ⟨_, _, _, _, _, _, ecl, ev2, efe⟩, ⟨_, _, _, ecc⟩⟩ }
  have S0 : ErrIs K R := ⟨scl, sha, shn, sht, shm⟩
  have Tp : Top PySem.Challenge.rw_keptwhole_k52_whole_marks_amid_other_dee.prog K mg := { C := C, CR := R, CK := CK, fM := f_M, fS := f_S, fF := f_F, fL := f_L, fE := fE, dM := _, dS := _, dF := _, dL := _, B := B, T := T, M := ⟨mk, a_M, i_M, kc⟩, FM := F_M, bM := b_M, FS := F_S, bS := b_S, mS := ⟨a_S, i_S, k_S⟩, FF := F_F, bF := b_F, mF := ⟨a_F, i_F, k_F⟩, FL := F_L, bL := b_L, mL := ⟨a_L, i_L, k_L⟩, R := R0, S := S0, mK := PySem.W.mg_of X G aK, kit := skt, bx := D_bx, tk := D_tk, pk := D_pk, lk := D_lk, rd := D_rd, ho := D_ho, jr := D_jr, nw := D_nw, to := D_to, mh := D_mh, is := D_is }
  exact ⟨_, fun s v => .of_eq rfl, fun base _ _ => ok_law F_law Tp⟩
end K52
open PySem PySem.W PyProof.Rows
set_option maxRecDepth 100000 in
set_option maxHeartbeats 0 in
theorem PySem.Challenge.cw_keptwhole_k52_whole_marks_amid_other_dee_holds : PySem.Challenge.rw_keptwhole_k52_whole_marks_amid_other_dee.Holds := by
  w_on; o_law; k_head; (case hw => w_witness2)
  k_fill
  refine L2.walk_ofG (l := PySem.Challenge.rw_keptwhole_k52_whole_marks_amid_other_dee) (n := 63) (k := 5) (x := "script") (sp := fun w => K52.spLaw _) rfl (by decide) rfl ⟨rfl, by decide, by decide⟩ (fun w h Y => PySem.W.kIn_of Y) ?F (fun _ _ _ _ => K52.law_sp)
  case F =>
    intro w mg fa h KX G hmg
    refine' K52.all_mk KX G hmg ?a_bx ?l_bx ?c_bx ?k_bx ?a_tk ?l_tk ?c_tk ?k_tk ?a_pk ?l_pk ?c_pk ?k_pk ?a_lk ?l_lk ?c_lk ?k_lk ?a_rd ?l_rd ?c_rd ?k_rd ?a_ho ?l_ho ?c_ho ?k_ho ?a_jr ?l_jr ?c_jr ?k_jr ?a_nw ?l_nw ?c_nw ?k_nw ?a_to ?l_to ?c_to ?k_to ?a_mh ?l_mh ?c_mh ?k_mh ?a_is ?l_is ?c_is ?k_is ?a_law ?l_law ?c_law ?k_law ?aC ?a_M ?i_M ?l_M ?c_M ?k_M ?a_S ?i_S ?l_S ?c_S ?k_S ?a_F ?i_F ?l_F ?c_F ?k_F ?a_L ?i_L ?l_L ?c_L ?k_L ?pg ?hd ?po ?sa ?mk ?kc ?nM ?nW ?z_len ?z_abs ?z_int ?z_range ?z_sorted ?z_set ?z_list ?z_tuple ?z_repr ?z_max ?z_min ?z_isinstance ?z_all ?z_super ?aR ?aK ?xR ?rv ?xK ?bmE ?fiK ?esa ?ega ?egg ?eno ?eiC ?etC ?ekC ?eex ?eve ?eow ?ety ?ehd ?ete ?eop ?efn ?eco ?ecl ?ev2 ?efe ?ecc ?scl ?sha ?shn ?sht ?shm ?ckl ?ckt ?cks
    (case a_bx => k_is)
    (case l_bx => k_is)
    (case c_bx => k_is)
    (case k_bx => k_is)
    (case a_tk => k_is)
    (case l_tk => k_is)
    (case c_tk => k_is)
    (case k_tk => k_is)
    (case a_pk => k_is)
    (case l_pk => k_is)
    (case c_pk => k_is)
    (case k_pk => k_is)
    (case a_lk => k_is)
    (case l_lk => k_is)
    (case c_lk => k_is)
    (case k_lk => k_is)
    (case a_rd => k_is)
    (case l_rd => k_is)
    (case c_rd => k_is)
    (case k_rd => k_is)
    (case a_ho => k_is)
    (case l_ho => k_is)
    (case c_ho => k_is)
    (case k_ho => k_is)
    (case a_jr => k_is)
    (case l_jr => k_is)
    (case c_jr => k_is)
    (case k_jr => k_is)
    (case a_nw => k_is)
    (case l_nw => k_is)
    (case c_nw => k_is)
    (case k_nw => k_is)
    (case a_to => k_is)
    (case l_to => k_is)
    (case c_to => k_is)
    (case k_to => k_is)
    (case a_mh => k_is)
    (case l_mh => k_is)
    (case c_mh => k_is)
    (case k_mh => k_is)
    (case a_is => k_is)
    (case l_is => k_is)
    (case c_is => k_is)
    (case k_is => k_is)
    (case a_law => k_is)
    (case l_law => k_is)
    (case c_law => k_is)
    (case k_law => k_is)
    (case aC => k_is)
    (case a_M => k_is)
    (case i_M => k_is)
    (case l_M => k_is)
    (case c_M => k_is)
    (case k_M => k_is)
    (case a_S => k_is)
    (case i_S => k_is)
    (case l_S => k_is)
    (case c_S => k_is)
    (case k_S => k_is)
    (case a_F => k_is)
    (case i_F => k_is)
    (case l_F => k_is)
    (case c_F => k_is)
    (case k_F => k_is)
    (case a_L => k_is)
    (case i_L => k_is)
    (case l_L => k_is)
    (case c_L => k_is)
    (case k_L => k_is)
    (case pg => k_is)
    (case hd => k_is)
    (case po => k_is)
    (case sa => k_is)
    (case mk => k_is)
    (case kc => k_is)
    (case nM => k_is)
    (case nW => k_is)
    (case z_len => k_is)
    (case z_abs => k_is)
    (case z_int => k_is)
    (case z_range => k_is)
    (case z_sorted => k_is)
    (case z_set => k_is)
    (case z_list => k_is)
    (case z_tuple => k_is)
    (case z_repr => k_is)
    (case z_max => k_is)
    (case z_min => k_is)
    (case z_isinstance => k_is)
    (case z_all => k_is)
    (case z_super => k_is)
    (case aR => k_is)
    (case aK => k_is)
    (case xR => k_is)
    (case rv => first | rfl | decide +kernel | k_is)
    (case xK => k_is)
    (case bmE => rfl)
    (case fiK => k_is)
    (case esa => k_is)
    (case ega => k_is)
    (case egg => k_is)
    (case eno => k_is)
    (case eiC => k_is)
    (case etC => k_is)
    (case ekC => k_is)
    (case eex => k_is)
    (case eve => k_is)
    (case eow => first | rfl | k_is)
    (case ety => k_is)
    (case ehd => k_is)
    (case ete => first | rfl | k_is)
    (case eop => k_is)
    (case efn => k_is)
    (case eco => k_is)
    (case ecl => k_is)
    (case ev2 => first | rfl | k_is)
    (case efe => first | rfl | decide +kernel | k_is)
    (case ecc => k_is)
    (case scl => k_is)
    (case sha => k_is)
    (case shn => k_is)
    (case sht => k_is)
    (case shm => k_is)
    (case ckl => first | rfl | k_is)
    (case ckt => k_is)
    (case cks => first | rfl | k_is)
