import PyProof.Rows.All
import Wide.All
import OpenK.AllK
import Wide.FinOn
import KE.KExcSuper
import HandS.ForExc
import HandS.ForMost
import HandS.IsInst
import HandS.Wide
import HandS.Deep
import HandS.TupAny
import HandS.RaiseMore
import HandS.ExcIs
import HandS.HotCalls
import KE.SortData
import PySem.Challenge.RW_gridplots_k77_groups_of_moves
set_option Elab.async false
set_option linter.all false
set_option maxRecDepth 100000
set_option maxHeartbeats 2000000
/-! Ex1: an own exception whose __init__ says super().__init__('..'), over the hand layer -/
namespace PySem
namespace Fx
open PySem.W PySem.Calls PyProof.Rows PySem.HandSPX
abbrev iSc (nms : List (Str × NameKind)) : Scope := { kind := .function, names := nms, isGenerator := false, isCoroutine := false, more := [] }
/-- what the written part says of an own exception class at C and its __init__ at fI -/
structure ExTxt (prog : Program) (K : Frag) (C fI : Addr) (qual : Str) (params : Arguments) (body : List Stmt) (nms : List (Str × NameKind)) : Prop where
  cls : ∃ nm q N bs bm sn sub ab col dd k0 k1 k2 k3 k5, K.lookup C = some (excClassObj nm q C N bs bm true sn sub ab col dd k0 k1 k2 k3 k5 "ValueError.__new__") ∧ refsVE bm = true
  iC : findIn K (.ref C) "__init__" = some (some (.ref fI))
  tC : typeIn K (.ref fI) = some (.type "function")
  kC : keepIn K (.ref C) = true
  exC : subIn K (.ref C) (.type "BaseException") = some true
  tyC : typeIn K (.ref C) = some (.type "type")
  sa : findIn K (.ref C) "__setattr__" = some (some (.builtin "object.__setattr__"))
  sup : ks_superIn K C C "__init__" = some (some (.builtin "ValueError.__init__"))
  subV : subIn K (.ref C) (.type "ValueError") = some true
  subC : mroIn K C (.ref C) = some true
  third : nsIn K cStatics "thirdparty.any" = some none
  fn : ∃ (oc : Value) (od : Option Addr) (doc pm : Value) (an : Option Addr) (ct : Value) (osl : Array (Option Value)) (cc cda : Addr) (cl : Value) (cld : Option Addr) (csl : Array (Option Value)) (ccl : Value) (cdd : Option Addr) (vs : Array Value) (ccs : Array (Option Value)) (file : Str) (tf : Tok),
    K.lookup fI = some ⟨oc, od, .func (ksFn "__init__" qual params body (iSc nms) .none .none doc pm an (.ref cda) ct cc), osl⟩ ∧ codeIn K (.ref cda) qual = true ∧
    K.lookup cc = some ⟨cl, cld, .cell (some (.ref C)), csl⟩ ∧ K.lookup cda = some ⟨ccl, cdd, .fields vs, ccs⟩ ∧ vs[2]? = some (.str file tf) ∧ ((prog.main.file : Str) == file) = true
  htop : (prog.main.scope.names.lookup ("super" : Str)).isSome = false
theorem kept_but {K : Frag} {h h' : Heap} {x : Addr} (X : K.In h) (hx : K.lookup x = none) (k : ∀ b o, b ≠ x → h.get? b = some o → h'.get? b = some o) : K.In h' := fun a o e =>
  k a o (fun z => by rw [z, hx] at e; cases e) (X a o e)
section
variable {prog : Program} {w : World} {A : Around} {E : Value → Shared → Prop} {s : Shared} {K : Frag} {C fI : Addr} {qual : Str} {params : Arguments} {body : List Stmt} {nms : List (Str × NameKind)}
variable {p0 p1 p2 p3 p4 p5 : Pos} {tx : Str} {j : Nat}
/-- ValueError.__init__ bound to x, called -/
theorem call_mw {u x t0 : Addr} {rest : List Value} {Q : Value → Shared → Prop} {nm q : Str} {N : Addr} {bs bm : List Value} {hdct : Bool} {sn : List Str} {sub : List Value} {ab : Bool} {col : Option Bool} {dd : Option Addr} {k0 k1 k2 k3 k5 : Option Value}
    (hC : s.heap.get? C = some (excClassObj nm q C N bs bm hdct sn sub ab col dd k0 k1 k2 k3 k5 "ValueError.__new__")) (hx : s.heap.get? x = some (excO C t0)) (hu : s.heap.get? u = some (kxs_mw "ValueError.__init__" x)) (hz : rest.length ≤ sizeLine)
    (hq : ∀ h' t1, (∀ b o, b ≠ x → s.heap.get? b = some o → h'.get? b = some o) → h'.get? x = some (excO C t1) → Q .none { s with heap := h' }) :
    wpAny (model prog w) A (call (.ref u) rest) Q E s := by
  obtain ⟨hh, g, d, tk, os⟩ := s
  refine wpAny_call (codeAny_of_tree ?_)
  show wpAny _ A.in1 (callAny (.ref u) ⟨rest, []⟩) _ _ _
  simp only [callAny]
  refine wpAny_bind (wpAny_load hu ?_)
  simp only [kxs_mw, show (Value.type "method-wrapper" == Value.type "method" || Value.type "method-wrapper" == Value.type "builtin_function_or_method" || Value.type "method-wrapper" == Value.type "method-wrapper") = true by decide, if_true]
  refine KFB.if_so (by decide) ?_
  refine wpAny_bind (check_bound_init PySem.F.excBase_ValueError.toExcCallFacts hC hx rfl ?_)
  refine wpAny_bind (wpAny_pure (wpAny_pure ?_))
  refine ⟨plainId_quiet PySem.F.excBase_ValueError.init.plain _, codeAny_builtin PySem.F.excBase_ValueError.initEntry ?_⟩
  exact exc_init_tree (cls := .ref C) (t0 := t0) (dv := none) (c2 := .none) (c3 := .none) (b4 := .bool false) hx hz fun h' k e' _ => hq h' _ k e'
/-- the statement super().__init__('m') -/
theorem sup_stmt (T : ExTxt prog K C fI qual params body nms) {mg mb : Str → Option Value} {L x t0 : Addr} {m : Str → Option Value} {cc cda : Addr} {oc : Value} {od : Option Addr} {doc pm : Value} {an : Option Addr} {ct : Value} {osl : Array (Option Value)}
    {cl : Value} {cld : Option Addr} {csl : Array (Option Value)} {ccl : Value} {cdd : Option Addr} {vs : Array Value} {ccs : Array (Option Value)} {file : Str} {tf : Tok} {ar : Arg} {pl : Sem Bool} {Q : Flow → Shared → Prop}
    (hfn : K.lookup fI = some ⟨oc, od, .func (ksFn "__init__" qual params body (iSc nms) .none .none doc pm an (.ref cda) ct cc), osl⟩)
    (hcell : K.lookup cc = some ⟨cl, cld, .cell (some (.ref C)), csl⟩) (hcode : K.lookup cda = some ⟨ccl, cdd, .fields vs, ccs⟩) (hvs : vs[2]? = some (.str file tf)) (hfile : ((prog.main.file : Str) == file) = true)
    (X : K.In s.heap) (hG : s.heap.Ns mainGlobals mg) (hgs : mg "super" = none) (hB : s.heap.Ns builtinsNs mb) (hbs : mb "super" = some (.type "super"))
    (hp : (params.posonlyargs ++ params.args).head? = some ar) (hn : s.heap.Ns L m) (hv : m ar.arg = some (.ref x)) (hx : s.heap.get? x = some (excO C t0)) (hnx : K.lookup x = none)
    (hks : nms.lookup ("super" : Str) = some .globalImplicit) (hkc : nms.lookup ("__class__" : Str) = some .free) (hka : nms.lookup ar.arg = some .local)
    (he : eval (.Call (.Attribute (.Call (.Name "super" p0) [] [] p1) "__init__" p2) [.Constant (.str tx) j p3] [] p4) (ksEnv qual (iSc nms) L fI (.ref cda) cc) = (do
      let ov ← attributeBase (.Call (.Name "super" p0) [] [] p1) "__init__" (ksEnv qual (iSc nms) L fI (.ref cda) cc) (eval (.Call (.Name "super" p0) [] [] p1) (ksEnv qual (iSc nms) L fI (.ref cda) cc))
      standAt p2.atName
      let (f, first) ← holding [ov] (getMethod ov "__init__" pl)
      callWith p4 f first (backTo p4 (starEach [.Constant (.str tx) j p3] (ksEnv qual (iSc nms) L fI (.ref cda) cc))) []))
    (hq : ∀ h' tk t1, (∀ b o, b ≠ x → s.heap.get? b = some o → h'.get? b = some o) → h'.get? x = some (excO C t1) → Q .next { s with heap := h', toks := tk }) :
    _root_.PySem.wpAt (model prog w) A (.func body (ksEnv qual (iSc nms) L fI (.ref cda) cc)) (exec (.Expr (.Call (.Attribute (.Call (.Name "super" p0) [] [] p1) "__init__" p2) [.Constant (.str tx) j p3] [] p4) p5) (ksEnv qual (iSc nms) L fI (.ref cda) cc)) Q E s := by
  obtain ⟨nm, q, N, bs, bm, sn, sub, ab, col, dd, k0, k1, k2, k3, k5, hC, hbm⟩ := T.cls
  obtain ⟨hh, g, d, t, os⟩ := s
  have hC' := X _ _ hC
  refine ks_wpAt_Expr_any ?_
  refine ks_wpAt_MethodCall ?_ he
  refine ks_wpAt_super_base (env := ksEnv qual (iSc nms) L fI (.ref cda) cc) hks hkc (by decide) rfl (X _ _ hfn) rfl hp rfl (X _ _ hcode) rfl hvs hfile T.htop ?_
  refine ks_loadName_global rfl hks (loadGlobal_builtin (env := ksEnv qual (iSc nms) L fI (.ref cda) cc) hG hgs hB hbs ⟨rfl, ?_⟩)
  refine wpAny_loadName_free rfl hkc rfl ⟨_, X _ _ hcell, rfl⟩ ?_
  refine wpAny_loadName_local rfl hka hn hv ?_
  refine ks_wpAny_isType_cls hC' rfl ⟨rfl, ?_⟩
  refine ks_wpAny_call_super hC' rfl hx rfl (fun c e => by cases e) (looks_mroIn X T.subC) (fun h1 e1 k1 => ?_)
  -- getMethod
  have X1 : K.In h1 := X.keeps k1
  have hx1 := k1 _ _ hx
  have hxC : x ≠ C := fun z => by rw [z, hC] at hnx; cases hnx
  have I1 : InstAt h1 x (excO C t0) C none := ⟨hx1, rfl, rfl, trivial⟩
  have hI : Looks (model prog w) h1 (isInstance (.ref x) (.type "ValueError")) true := I1.type.andThen (looks_subIn X1 T.subV)
  have hcl : clsIn K C = some { name := nm, bases := bs, mro := .ref C :: bm, ns := N, qualname := q, hasDict := true, slotNames := sn, subclasses := sub, abstract := ab, collection := col, hasDel := false } := by unfold clsIn; rw [hC] <;> rfl
  have hsup := T.sup
  unfold ks_superIn at hsup
  rw [hcl] at hsup
  refine kxs_getMethod kxs_ValueError e1 (looks_opaque X1 T.third) (l₀ := .ref C :: bm) (fun A Q E s k q => wpAny_bind ((looks_clsIn X1 hcl) A _ E s k (wpAny_pure q))) rfl X1 hsup hI hxC (by decide) ?_
  -- callWith
  have hu : (h1.push (kxs_mw "ValueError.__init__" x)).get? h1.objs.size = some (kxs_mw "ValueError.__init__" x) := Heap.get?_push_at rfl rfl
  have k2 : ∀ b o, hh.get? b = some o → (h1.push (kxs_mw "ValueError.__init__" x)).get? b = some o := fun b o e => Heap.get?_push_of_some _ (k1 b o e)
  refine kxs_callWith (i := "ValueError.__init__") (x := x) rfl ?_
  refine evalArgs_plain (spliced_more (wpAny_Constant_str ?_) rfl)
  refine spliced_none ⟨hu, ?_⟩
  show wpAny _ _ (call (.ref h1.objs.size) [.str tx (t + 1)]) _ _ _
  refine call_mw (t0 := t0) (s := ⟨h1.push (kxs_mw "ValueError.__init__" x), g, d, t + 1 + 1, os⟩) (k2 _ _ hC') (k2 _ _ hx) hu (by show 1 ≤ sizeLine; rw [sizeLine_eq]; omega) fun h' t1 k3 e3 => ?_
  exact hq h' _ t1 (fun b o hb e => k3 b o hb (k2 b o e)) e3
abbrev iA0 (q : Pos) : Arguments := { posonlyargs := [], args := [{ arg := "self", annotation := none, pos := q }], vararg := none, kwonlyargs := [], kw_defaults := [], kwarg := none, defaults := [] }
theorem he_of {env : Env} (hpos : p2.endLine = p4.line) : ∃ pl : Sem Bool, eval (.Call (.Attribute (.Call (.Name "super" p0) [] [] p1) "__init__" p2) [.Constant (.str tx) j p3] [] p4) env = (do
      let ov ← attributeBase (.Call (.Name "super" p0) [] [] p1) "__init__" env (eval (.Call (.Name "super" p0) [] [] p1) env)
      standAt p2.atName
      let (f, first) ← holding [ov] (getMethod ov "__init__" pl)
      callWith p4 f first (backTo p4 (starEach [.Constant (.str tx) j p3] env)) []) := by
  refine ⟨(do return (← importBound (.Call (.Name "super" p0) [] [] p1) env).getD true), ?_⟩
  have e1 : methodCallPos true (.Call (.Name "super" p0) [] [] p1) env p2 p4 = pure p4 := by
    unfold methodCallPos
    rw [hpos]
    simp
  show (do
    let ov ← attributeBase (.Call (.Name "super" p0) [] [] p1) "__init__" env (eval (.Call (.Name "super" p0) [] [] p1) env)
    standAt p2.atName
    methodCall (.Call (.Name "super" p0) [] [] p1) "__init__" p2 p4 env ov 1 (backTo p4 (starEach [.Constant (.str tx) j p3] env)) []) = _
  have e2 : ∀ ov, methodCall (.Call (.Name "super" p0) [] [] p1) "__init__" p2 p4 env ov 1 (backTo p4 (starEach [.Constant (.str tx) j p3] env)) [] = (do
      let (f, first) ← holding [ov] (getMethod ov "__init__" (do return (← importBound (.Call (.Name "super" p0) [] [] p1) env).getD true))
      callWith p4 f first (backTo p4 (starEach [.Constant (.str tx) j p3] env)) []) := fun ov => by
    show (do
      let (f, first) ← holding [ov] (getMethod ov "__init__" (do return (← importBound (.Call (.Name "super" p0) [] [] p1) env).getD true))
      let callPos ← methodCallPos true (.Call (.Name "super" p0) [] [] p1) env p2 p4
      callWith callPos f first (backTo p4 (starEach [.Constant (.str tx) j p3] env)) []) = _
    rw [e1]
    rfl
  simp only [e2]
/-- __init__(self): super().__init__('m') -/
theorem init0 {q : Pos} (T : ExTxt prog K C fI qual (iA0 q) [.Expr (.Call (.Attribute (.Call (.Name "super" p0) [] [] p1) "__init__" p2) [.Constant (.str tx) j p3] [] p4) p5] nms)
    {R : Result → Shared → Prop} {mg mb : Str → Option Value} {x t0 : Addr}
    (X : K.In s.heap) (hlim : s.heap.NoLimit) (hG : s.heap.Ns mainGlobals mg) (hgs : mg "super" = none) (hB : s.heap.Ns builtinsNs mb) (hbs : mb "super" = some (.type "super")) (hroom : A.depth < recursionLimit)
    (hx : s.heap.get? x = some (excO C t0)) (hnx : K.lookup x = none)
    (hks : nms.lookup ("super" : Str) = some .globalImplicit) (hkc : nms.lookup ("__class__" : Str) = some .free) (hka : nms.lookup ("self" : Str) = some .local) (hcell : ∀ y ∈ nms, y.2 ≠ .cell)
    (hpos : p2.endLine = p4.line)
    (hq : ∀ h' tk t1, (∀ b o, b ≠ x → s.heap.get? b = some o → h'.get? b = some o) → h'.get? x = some (excO C t1) → R (.ok (.ret .none)) { s with heap := h', toks := tk }) :
    codeAny (model prog w) A (.call (.ref fI) ⟨[.ref x], []⟩) R s := by
  obtain ⟨oc, od, doc, pm, an, ct, osl, cc, cda, cl, cld, csl, ccl, cdd, vs, ccs, file, tf, hfn, hcd, hcc, hco, hvs, hfile⟩ := T.fn
  refine ks_codeAny_call_defAt (binds := [("self", .ref x)]) hroom (X _ _ hfn) rfl hlim (codeRec_of X hcd) rfl (BindsTo.of_eq (by first | rfl | with_unfolding_all rfl)) hcell (fun y hy => ?_) (fun h1 hn k => ?_) rfl rfl rfl
  · rcases List.mem_singleton.mp hy with rfl
    exact hka
  have X1 := X.keeps k
  have ns : ∀ {b : Addr} {m : Str → Option Value}, s.heap.Ns b m → h1.Ns b m := fun h => h.keeps k
  refine ks_wpAt_execs_cons ?_
  obtain ⟨pl, he⟩ := he_of (p0 := p0) (p1 := p1) (p3 := p3) (tx := tx) (j := j) (env := ksEnv qual (iSc nms) s.heap.objs.size fI (.ref cda) cc) hpos
  refine sup_stmt (s := ⟨h1, s.gens, s.drawn, s.toks + 1, s.os⟩) T hfn hcc hco hvs hfile X1 (ns hG) hgs (ns hB) hbs rfl hn (by first | rfl | with_unfolding_all rfl | kernel_rfl) (k _ _ hx) hnx hks hkc hka he fun h2 tk t1 k2 e2 => ?_
  refine wpAt_of_wpAny (wpAny_execs_nil ?_)
  exact hq h2 tk t1 (fun b o hb e => k2 b o hb (k b o e)) e2
/-- a made exception without a dict -/
theorem made0 {q : Pos} (T : ExTxt prog K C fI qual (iA0 q) [.Expr (.Call (.Attribute (.Call (.Name "super" p0) [] [] p1) "__init__" p2) [.Constant (.str tx) j p3] [] p4) p5] nms)
    {R : Result → Shared → Prop} {mg mb : Str → Option Value}
    (X : K.In s.heap) (hlim : s.heap.NoLimit) (hG : s.heap.Ns mainGlobals mg) (hgs : mg "super" = none) (hB : s.heap.Ns builtinsNs mb) (hbs : mb "super" = some (.type "super")) (hroom : A.depth + 1 < recursionLimit)
    (hks : nms.lookup ("super" : Str) = some .globalImplicit) (hkc : nms.lookup ("__class__" : Str) = some .free) (hka : nms.lookup ("self" : Str) = some .local) (hcell : ∀ y ∈ nms, y.2 ≠ .cell)
    (hpos : p2.endLine = p4.line)
    (hq : ∀ h' tk e t1, (∀ b o, s.heap.get? b = some o → h'.get? b = some o) → s.heap.get? e = none → h'.get? e = some (excO C t1) → R (.ok (.ret (.ref e))) { s with heap := h', toks := tk }) :
    codeAny (model prog w) A (.call (.ref C) ⟨[], []⟩) R s := by
  obtain ⟨nm, qn, N, bs, bm, sn, sub, ab, col, dd, k0, k1, k2, k3, k5, hC, hbm⟩ := T.cls
  obtain ⟨hp, g, dr, tk, os⟩ := s
  have k : ∀ b o, hp.get? b = some o → ((hp.push (kdv_tup [])).push (excO C hp.objs.size)).get? b = some o := fun b o e => Heap.get?_push_of_some _ (Heap.get?_push_of_some _ e)
  have hget : ((hp.push (kdv_tup [])).push (excO C hp.objs.size)).get? (hp.objs.size + 1) = some (excO C hp.objs.size) := by heap_get
  have hno : hp.get? (hp.objs.size + 1) = none := by
    cases z : hp.get? (hp.objs.size + 1) with
    | none => rfl
    | some o => exact absurd (Nat.lt_of_succ_lt (Heap.lt_size z)) (Nat.lt_irrefl _)
  have hnx : K.lookup (hp.objs.size + 1) = none := by
    cases e : K.lookup (hp.objs.size + 1) with
    | none => rfl
    | some o =>
      have z : hp.get? (hp.objs.size + 1) = some o := X _ _ e
      rw [hno] at z
      cases z
  have ns : ∀ {b : Addr} {m : Str → Option Value}, hp.Ns b m → ((hp.push (kdv_tup [])).push (excO C hp.objs.size)).Ns b m := fun h => h.keeps k
  refine call_own F.excBase_ValueError (fun X => refsVE_contains X bm hbm) (X _ _ hC) (looks_findIn X T.iC) (fun self => bind_fn X self T.tC) (by rw [sizeLine_eq]; exact Nat.zero_le _) ?_
  refine init0 (s := ⟨(hp.push (kdv_tup [])).push (excO C hp.objs.size), g, dr, tk, os⟩) T (X.keeps k) (hlim.keeps k) (ns hG) hgs (ns hB) hbs ?_ hget hnx hks hkc hka hcell hpos fun h' tk' t1 k' e' => ?_
  · show A.depth + 1 < recursionLimit
    exact hroom
  · have old : ∀ b o, hp.get? b = some o → h'.get? b = some o := fun b o e => k' b o (Nat.ne_of_lt (Nat.lt_succ_of_lt (Heap.lt_size e))) (k b o e)
    exact ⟨rfl, hq h' tk' (hp.objs.size + 1) t1 old hno e'⟩
end
end Fx
end PySem
set_option maxRecDepth 100000
/-! F3: a data-level reading of defs, over the hand layer -/
namespace F3
open PySem PySem.Spec PyProof.Rows L2

/-- a value as data: shared; a fresh list of the running def's; a list of a slot's own -/
inductive Res where
  | sh (d : PyData)
  | fr (ds : List PyData)
  | bo (ds : List PyData)
@[simp] def Res.dat : Res → PyData
  | .sh d => d
  | .fr ds => .list ds
  | .bo ds => .list ds
abbrev Rh := List (Option Res)

/-! ### heaps -/
def off (H : Hp) (O : List Addr) : Hp := fun b => if b ∈ O then none else H b
theorem off_in {H : Hp} {O : List Addr} {b : Addr} (h : b ∈ O) : off H O b = none := if_pos h
theorem off_out {H : Hp} {O : List Addr} {b : Addr} (h : b ∉ O) : off H O b = H b := if_neg h
theorem off_some {H : Hp} {O : List Addr} {b : Addr} {o : HO} (h : off H O b = some o) : b ∉ O ∧ H b = some o := by
  by_cases hb : b ∈ O
  · rw [off_in hb] at h; cases h
  · rw [off_out hb] at h; exact ⟨hb, h⟩
theorem off_same {H H' : Hp} {O : List Addr} (e : Same H H') : Same (off H O) (off H' O) := fun b o h => by
  obtain ⟨hb, h⟩ := off_some h
  rw [off_out hb]; exact e _ _ h
theorem off_le {H : Hp} {O : List Addr} : Same (off H O) H := fun b o h => (off_some h).2
theorem off_sub {H : Hp} {O O' : List Addr} (s : ∀ b ∈ O', b ∈ O) : Same (off H O) (off H O') := fun b o h => by
  obtain ⟨hb, h⟩ := off_some h
  rw [off_out fun z => hb (s b z)]; exact h
theorem off_new {H : Hp} {O : List Addr} {p : Addr} (h : H p = none) : Same (off H O) (off H (p :: O)) := fun b o e => by
  obtain ⟨hb, e⟩ := off_some e
  rw [off_out fun z => ?_]
  · exact e
  · rcases List.mem_cons.mp z with z | z
    · rw [z, h] at e; cases e
    · exact hb z
theorem off_upd {H : Hp} {O : List Addr} {p : Addr} {o : HO} (h : p ∈ O) : off (upd H p o) O = off H O := by
  funext b
  by_cases hb : b ∈ O
  · rw [off_in hb, off_in hb]
  · rw [off_out hb, off_out hb, upd_ne fun z => hb (by rw [z]; exact h)]
theorem same_new {H : Hp} {p : Addr} {o : HO} (h : H p = none) : Same H (upd H p o) := fun b u e => by
  rw [upd_ne (ne_of_none e h)]; exact e

section
variable {K : PySem.W.Frag} {H H' : Hp}
theorem Same.tup {a : Addr} {xs : List V} (e : Same H H') (h : SqT K H a xs) : SqT K H' a xs := by
  rcases h with (h | ⟨o, h⟩) | h
  · exact .inl (.inl (e _ _ h))
  · exact .inl (.inr ⟨o, e _ _ h⟩)
  · exact .inr h
mutual
theorem dp_mono (e : Same H H') : ∀ (d : PyData) (v : V), Dp K H v d → Dp K H' v d
  | .none, _, h => by cases h; exact .non
  | .bool b, _, h => by cases h; exact .bl b
  | .int i, _, h => by cases h; exact .int i
  | .str x, _, h => by cases h; exact .str x
  | .list ds, _, h => by
    cases h with
    | lst hs ha => exact .lst (e.seq hs) (dpa_mono e ds _ ha)
  | .tuple ds, _, h => by
    cases h with
    | tup hs ha => exact .tup (Same.tup e hs) (dpa_mono e ds _ ha)
  | .dict _, _, h => by cases h
theorem dpa_mono (e : Same H H') : ∀ (ds : List PyData) (vs : List V), DpAll K H vs ds → DpAll K H' vs ds
  | [], _, h => by cases h; exact .nil
  | d :: ds, _, h => by
    cases h with
    | cons h1 h2 => exact .cons (dp_mono e d _ h1) (dpa_mono e ds _ h2)
end
theorem dpa_len : ∀ {ds : List PyData} {vs : List V}, DpAll K H vs ds → vs.length = ds.length
  | [], _, h => by cases h; rfl
  | d :: ds, _, h => by
    cases h with
    | cons h1 h2 => rw [List.length_cons, List.length_cons, dpa_len h2]
theorem dpa_get : ∀ {ds : List PyData} {vs : List V} {i : Nat} {d : PyData}, DpAll K H vs ds → ds[i]? = some d → ∃ v, vs[i]? = some v ∧ Dp K H v d
  | [], _, _, _, _, e => by simp at e
  | d :: ds, _, 0, _, h, e => by
    cases h with
    | cons h1 h2 =>
      simp at e; subst e
      exact ⟨_, rfl, h1⟩
  | d :: ds, _, i + 1, x, h, e => by
    cases h with
    | cons h1 h2 =>
      obtain ⟨v, e1, e2⟩ := dpa_get (i := i) (d := x) h2 (by simpa using e)
      exact ⟨v, by simpa using e1, e2⟩
theorem dpa_get' : ∀ {ds : List PyData} {vs : List V} {i : Nat} {v : V}, DpAll K H vs ds → vs[i]? = some v → ∃ d, ds[i]? = some d ∧ Dp K H v d
  | [], _, _, _, h, e => by cases h; simp at e
  | d :: ds, _, 0, _, h, e => by
    cases h with
    | cons h1 h2 =>
      simp at e; subst e
      exact ⟨_, rfl, h1⟩
  | d :: ds, _, i + 1, x, h, e => by
    cases h with
    | cons h1 h2 =>
      obtain ⟨v, e1, e2⟩ := dpa_get' (i := i) (v := x) h2 (by simpa using e)
      exact ⟨v, by simpa using e1, e2⟩
theorem dpa_append : ∀ {ds es : List PyData} {vs ws : List V}, DpAll K H vs ds → DpAll K H ws es → DpAll K H (vs ++ ws) (ds ++ es)
  | [], _, _, _, h, g => by cases h; exact g
  | _ :: _, _, _, _, h, g => by
    cases h with
    | cons h1 h2 => exact .cons h1 (dpa_append h2 g)
theorem dpa_take : ∀ (n : Nat) {ds : List PyData} {vs : List V}, DpAll K H vs ds → DpAll K H (vs.take n) (ds.take n)
  | 0, _, _, _ => .nil
  | n + 1, [], _, h => by cases h; exact .nil
  | n + 1, _ :: _, _, h => by
    cases h with
    | cons h1 h2 => exact .cons h1 (dpa_take n h2)
theorem dpa_drop : ∀ (n : Nat) {ds : List PyData} {vs : List V}, DpAll K H vs ds → DpAll K H (vs.drop n) (ds.drop n)
  | 0, _, _, h => h
  | n + 1, [], _, h => by cases h; exact .nil
  | n + 1, _ :: _, _, h => by
    cases h with
    | cons h1 h2 => exact dpa_drop n h2
theorem dpa_set : ∀ (i : Nat) {ds : List PyData} {vs : List V} {d : PyData} {v : V}, DpAll K H vs ds → Dp K H v d → DpAll K H (vs.set i v) (ds.set i d)
  | _, [], _, _, _, h, _ => by cases h; exact .nil
  | 0, _ :: _, _, _, _, h, g => by
    cases h with
    | cons h1 h2 => exact .cons g h2
  | i + 1, _ :: _, _, _, _, h, g => by
    cases h with
    | cons h1 h2 => exact .cons h1 (dpa_set i h2 g)
theorem dpa_dropLast {ds : List PyData} {vs : List V} (h : DpAll K H vs ds) : DpAll K H vs.dropLast ds.dropLast := by
  rw [List.dropLast_eq_take, List.dropLast_eq_take, dpa_len h]
  exact dpa_take _ h
theorem dpa_reverse : ∀ {ds : List PyData} {vs : List V}, DpAll K H vs ds → DpAll K H vs.reverse ds.reverse
  | [], _, h => by cases h; exact .nil
  | _ :: _, _, h => by
    cases h with
    | cons h1 h2 =>
      rw [List.reverse_cons, List.reverse_cons]
      exact dpa_append (dpa_reverse h2) (.cons h1 .nil)
theorem dpa_ints : ∀ (ns : List Int), DpAll K H (ns.map V.int) (ns.map PyData.int)
  | [] => .nil
  | n :: ns => .cons (.int n) (dpa_ints ns)
theorem dpa_toInts : ∀ {ns : List Int} {vs : List V}, DpAll K H vs (ns.map PyData.int) → vs = ns.map V.int
  | [], _, h => by cases h; rfl
  | n :: ns, _, h => by
    cases h with
    | cons h1 h2 => cases h1; rw [dpa_toInts h2]; rfl
theorem dpa_toBools : ∀ {ns : List Bool} {vs : List V}, DpAll K H vs (ns.map PyData.bool) → vs = ns.map V.bl
  | [], _, h => by cases h; rfl
  | n :: ns, _, h => by
    cases h with
    | cons h1 h2 => cases h1; rw [dpa_toBools h2]; rfl
end

/-! ### values -/
/-- H0: at the def's entry; Z: what its callers own; O: what is owned now -/
structure Bs (H0 : Hp) (Z O : List Addr) (H : Hp) : Prop where
  same : Same H0 H
  zo : ∀ p ∈ Z, p ∈ O
  z0 : ∀ p ∈ Z, ∃ o, H0 p = some o
  live : ∀ p ∈ O, ∃ o, H p = some o
theorem Bs.mono {H0 H H' : Hp} {Z O : List Addr} (b : Bs H0 Z O H) (e : Same H H') : Bs H0 Z O H' :=
  ⟨b.same.trans e, b.zo, b.z0, fun p hp => let ⟨o, h⟩ := b.live p hp; ⟨o, e _ _ h⟩⟩
theorem Bs.new {H0 H : Hp} {Z O : List Addr} {p : Addr} (b : Bs H0 Z O H) (h : H p = none) : p ∉ O ∧ H0 p = none :=
  ⟨fun hp => (by
    obtain ⟨o, e⟩ := b.live p hp
    rw [h] at e
    cases e), b.same.free h⟩
theorem Bs.nz {H0 H : Hp} {Z O : List Addr} {p : Addr} (b : Bs H0 Z O H) (h : H0 p = none) : p ∉ Z := fun hz => by
  obtain ⟨o, e⟩ := b.z0 p hz
  rw [h] at e
  cases e

/-- v is r, in the heap H of a def entered at H0; a fresh list is younger than Hs; the lists at O are owned -/
def Vl (K : PySem.W.Frag) (H0 Hs : Hp) (O : List Addr) (H : Hp) : Res → V → Prop
  | .sh d, v => Dp K (off H O) v d
  | .fr ds, v => ∃ p vs, v = .ref p ∧ Hs p = none ∧ p ∉ O ∧ H p = some (.lst vs) ∧ DpAll K (off H (p :: O)) vs ds
  | .bo ds, v => ∃ p vs, v = .ref p ∧ H0 p = none ∧ p ∈ O ∧ H p = some (.lst vs) ∧ DpAll K (off H O) vs ds
/-- shared, if it is no slot's own -/
def Res.shr : Res → Option PyData
  | .sh d => some d
  | .fr ds => some (.list ds)
  | .bo _ => none
/-- the items of a list, whoever owns it: they are shared -/
def Res.lst : Res → Option (List PyData)
  | .sh (.list ds) => some ds
  | .fr ds => some ds
  | .bo ds => some ds
  | _ => none
def Res.tup : Res → Option (List PyData)
  | .sh (.tuple ds) => some ds
  | _ => none
section
variable {K : PySem.W.Frag} {H0 Hs H H' : Hp} {Z O : List Addr}
theorem Vl.anti {r : Res} {v : V} {Hs' : Hp} (h : Vl K H0 Hs' O H r v) (e : Same Hs Hs') : Vl K H0 Hs O H r v := by
  cases r with
  | sh d => exact h
  | fr ds =>
    obtain ⟨p, vs, h1, h2, h3⟩ := h
    exact ⟨p, vs, h1, e.free h2, h3⟩
  | bo ds => exact h
theorem Vl.mono {r : Res} {v : V} (h : Vl K H0 Hs O H r v) (e : Same H H') : Vl K H0 Hs O H' r v := by
  cases r with
  | sh d => exact dp_mono (off_same e) d v h
  | fr ds =>
    obtain ⟨p, vs, h1, h2, h3, h4, h5⟩ := h
    exact ⟨p, vs, h1, h2, h3, e _ _ h4, dpa_mono (off_same e) ds vs h5⟩
  | bo ds =>
    obtain ⟨p, vs, h1, h2, h3, h4, h5⟩ := h
    exact ⟨p, vs, h1, h2, h3, e _ _ h4, dpa_mono (off_same e) ds vs h5⟩
theorem Vl.full {r : Res} {v : V} (h : Vl K H0 Hs O H r v) : Dp K H v r.dat := by
  cases r with
  | sh d => exact dp_mono off_le d v h
  | fr ds =>
    obtain ⟨p, vs, rfl, h2, h3, h4, h5⟩ := h
    exact .lst (SqL.of h4) (dpa_mono off_le ds vs h5)
  | bo ds =>
    obtain ⟨p, vs, rfl, h2, h3, h4, h5⟩ := h
    exact .lst (SqL.of h4) (dpa_mono off_le ds vs h5)
theorem Vl.shr {r : Res} {d : PyData} {v : V} (h : Vl K H0 Hs O H r v) (e : r.shr = some d) : Dp K (off H O) v d := by
  cases r with
  | sh d' => cases e; exact h
  | fr ds =>
    cases e
    obtain ⟨p, vs, rfl, h2, h3, h4, h5⟩ := h
    exact .lst (SqL.of (by rw [off_out h3]; exact h4)) (dpa_mono (off_sub fun b hb => List.mem_cons_of_mem _ hb) ds vs h5)
  | bo ds => cases e
theorem Vl.lst {r : Res} {ds : List PyData} {v : V} (h : Vl K H0 Hs O H r v) (e : r.lst = some ds) : ∃ p vs, v = .ref p ∧ SqL K H p vs ∧ DpAll K (off H O) vs ds := by
  cases r with
  | sh d =>
    cases d <;> simp only [Res.lst] at e <;> try (cases e; done)
    cases e
    have h : Dp K (off H O) v (.list _) := h
    cases h with
    | lst hs ha => exact ⟨_, _, rfl, off_le.seq hs, ha⟩
  | fr ds =>
    cases e
    obtain ⟨p, vs, rfl, h2, h3, h4, h5⟩ := h
    exact ⟨p, vs, rfl, SqL.of h4, dpa_mono (off_sub fun b hb => List.mem_cons_of_mem _ hb) ds vs h5⟩
  | bo ds =>
    cases e
    obtain ⟨p, vs, rfl, h2, h3, h4, h5⟩ := h
    exact ⟨p, vs, rfl, SqL.of h4, h5⟩
theorem Vl.tup {r : Res} {ds : List PyData} {v : V} (h : Vl K H0 Hs O H r v) (e : r.tup = some ds) : ∃ p vs, v = .ref p ∧ SqT K (off H O) p vs ∧ DpAll K (off H O) vs ds := by
  cases r with
  | sh d =>
    cases d <;> simp only [Res.tup] at e <;> try (cases e; done)
    cases e
    have h : Dp K (off H O) v (.tuple _) := h
    cases h with
    | tup hs ha => exact ⟨_, _, rfl, hs, ha⟩
  | fr ds => cases e
  | bo ds => cases e
theorem Vl.int {i : Int} : Vl K H0 Hs O H (.sh (.int i)) (.int i) := Dp.int i
theorem Vl.bool {b : Bool} : Vl K H0 Hs O H (.sh (.bool b)) (.bl b) := Dp.bl b
theorem Vl.none : Vl K H0 Hs O H (.sh .none) .non := Dp.non
theorem Vl.str {b : Str} : Vl K H0 Hs O H (.sh (.str b)) (.str b) := Dp.str b
theorem Vl.to_int {i : Int} {v : V} (h : Vl K H0 Hs O H (.sh (.int i)) v) : v = .int i := by
  have h : Dp K (off H O) v (.int i) := h
  cases h; rfl
theorem Vl.to_bool {i : Bool} {v : V} (h : Vl K H0 Hs O H (.sh (.bool i)) v) : v = .bl i := by
  have h : Dp K (off H O) v (.bool i) := h
  cases h; rfl
theorem Vl.to_str {i : Str} {v : V} (h : Vl K H0 Hs O H (.sh (.str i)) v) : v = .str i := by
  have h : Dp K (off H O) v (.str i) := h
  cases h; rfl
theorem Vl.to_none {v : V} (h : Vl K H0 Hs O H (.sh .none) v) : v = .non := by
  have h : Dp K (off H O) v .none := h
  cases h; rfl
/-- a new list -/
theorem Vl.newL {p : Addr} {vs : List V} {ds : List PyData} (b : Bs H0 Z O H) (e : Same Hs H) (h : H p = Option.none) (hd : DpAll K (off H O) vs ds) : Vl K H0 Hs O (upd H p (.lst vs)) (.fr ds) (.ref p) :=
  ⟨p, vs, rfl, e.free h, (b.new h).1, upd_same, dpa_mono ((off_new h).trans (off_same (same_new h))) ds vs hd⟩
theorem Vl.newT {p : Addr} {vs : List V} {ds : List PyData} (b : Bs H0 Z O H) (h : H p = Option.none) (hd : DpAll K (off H O) vs ds) : Vl K H0 Hs O (upd H p (.tup vs)) (.sh (.tuple ds)) (.ref p) := by
  refine Dp.tup (SqT.of (a := p) ?_) (dpa_mono (off_same (same_new h)) ds vs hd)
  rw [off_out (b.new h).1]; exact upd_same
end

/-! ### states -/
structure Cor (K : PySem.W.Frag) (H0 : Hp) (Z O : List Addr) (ρ : Rh) (σ : L2.St) (H : Hp) : Prop where
  bs : Bs H0 Z O H
  sl : ∀ (i : Nat) (r : Res), ρ[i]? = some (some r) → ∃ v, σ[i]? = some (some v) ∧ Vl K H0 H0 O H r v ∧ ∀ ds, r ≠ .fr ds
  di : ∀ (i j : Nat) (ds es : List PyData) (p : Addr), i ≠ j → ρ[i]? = some (some (.bo ds)) → ρ[j]? = some (some (.bo es)) → σ[i]? = some (some (.ref p)) → σ[j]? = some (some (.ref p)) → False
  len : ρ.length = σ.length
section
variable {K : PySem.W.Frag} {H0 H H' : Hp} {Z O O' : List Addr} {ρ : Rh} {σ : L2.St}
theorem Cor.mono (c : Cor K H0 Z O ρ σ H) (e : Same H H') : Cor K H0 Z O ρ σ H' :=
  ⟨c.bs.mono e, fun i r h => let ⟨v, h1, h2, h3⟩ := c.sl i r h; ⟨v, h1, h2.mono e, h3⟩, c.di, c.len⟩
theorem set_some {α : Type} {l : List (Option α)} {i j : Nat} {a : α} (h : (l.set i none)[j]? = some (some a)) : l[j]? = some (some a) := by
  by_cases hj : i = j
  · subst hj
    by_cases hl : i < l.length
    · rw [List.getElem?_set_self hl] at h; cases h
    · rw [List.getElem?_eq_none (by simpa using hl)] at h; cases h
  · rwa [List.getElem?_set_ne hj] at h
/-- forget a slot -/
theorem Cor.forget (c : Cor K H0 Z O ρ σ H) (i : Nat) : Cor K H0 Z O (ρ.set i none) σ H :=
  ⟨c.bs, fun j r h => c.sl j r (set_some h), fun a b ds es p hab ha hb => c.di a b ds es p hab (set_some ha) (set_some hb), by rw [List.length_set]; exact c.len⟩
theorem set_get {α : Type} {l : List α} {i j : Nat} {a b : α} (h : (l.set i a)[j]? = some b) : (j = i ∧ b = a ∧ i < l.length) ∨ (j ≠ i ∧ l[j]? = some b) := by
  by_cases hj : i = j
  · subst hj
    by_cases hl : i < l.length
    · rw [List.getElem?_set_self hl] at h; cases h; exact .inl ⟨rfl, rfl, hl⟩
    · rw [List.getElem?_eq_none (by simpa using hl)] at h; cases h
  · rw [List.getElem?_set_ne hj] at h; exact .inr ⟨fun e => hj e.symm, h⟩
/-- store a shared value -/
theorem Cor.setS (c : Cor K H0 Z O ρ σ H) (i : Nat) {d : PyData} {v : V} (h : Dp K (off H O) v d) : Cor K H0 Z O (ρ.set i (some (.sh d))) (σ.set i (some v)) H := by
  refine ⟨c.bs, fun j r e => ?_, fun a b ds es p hab ha hb sa sb => ?_, by rw [List.length_set, List.length_set]; exact c.len⟩
  · rcases set_get e with ⟨rfl, e, hl⟩ | ⟨hj, e⟩
    · cases e
      exact ⟨v, List.getElem?_set_self (by rw [← c.len]; exact hl), h, fun _ z => by cases z⟩
    · rw [List.getElem?_set_ne hj.symm]; exact c.sl j r e
  · rcases set_get ha with ⟨_, e, _⟩ | ⟨h1, ha⟩
    · cases e
    · rcases set_get hb with ⟨_, e, _⟩ | ⟨h2, hb⟩
      · cases e
      · rw [List.getElem?_set_ne h1.symm] at sa
        rw [List.getElem?_set_ne h2.symm] at sb
        exact c.di a b ds es p hab ha hb sa sb
/-- store a fresh list: the slot owns it -/
theorem Cor.setF (c : Cor K H0 Z O ρ σ H) (e : Same H H') (i : Nat) {ds : List PyData} {p : Addr} {vs : List V} (h2 : H p = none) (h3 : p ∉ O) (h4 : H' p = some (.lst vs)) (h5 : DpAll K (off H' (p :: O)) vs ds) :
    Cor K H0 Z (p :: O) (ρ.set i (some (.bo ds))) (σ.set i (some (.ref p))) H' ∧ Same (off H O) (off H' (p :: O)) := by
  have sm : Same (off H O) (off H' (p :: O)) := (off_new h2).trans (off_same e)
  have b := c.bs.mono e
  have old : ∀ (j : Nat) (q : Addr) (xs : List PyData), ρ[j]? = some (some (.bo xs)) → σ[j]? = some (some (.ref q)) → q ≠ p := fun j q xs ej es => by
    obtain ⟨w, e1, ⟨q', ws, rfl, g0, gp, _⟩, _⟩ := c.sl j _ ej
    rw [es] at e1
    cases e1
    exact fun z => h3 (z ▸ gp)
  refine ⟨⟨⟨b.same, fun q hq => List.mem_cons_of_mem _ (b.zo q hq), b.z0, fun q hq => ?_⟩, fun j r ej => ?_, fun a b xs ys q hab ha hb sa sb => ?_, by rw [List.length_set, List.length_set]; exact c.len⟩, sm⟩
  · rcases List.mem_cons.mp hq with rfl | hq
    · exact ⟨_, h4⟩
    · exact b.live q hq
  · rcases set_get ej with ⟨rfl, ej, hl⟩ | ⟨hj, ej⟩
    · cases ej
      exact ⟨.ref p, List.getElem?_set_self (by rw [← c.len]; exact hl), ⟨p, vs, rfl, c.bs.same.free h2, List.mem_cons_self, h4, h5⟩, fun _ z => by cases z⟩
    · rw [List.getElem?_set_ne hj.symm]
      obtain ⟨w, e1, e2, e3⟩ := c.sl j r ej
      refine ⟨w, e1, ?_, e3⟩
      cases r with
      | sh d => exact dp_mono sm d w e2
      | fr xs => exact absurd rfl (e3 xs)
      | bo xs =>
        obtain ⟨q, ws, rfl, g0, gp, gl, gd⟩ := e2
        exact ⟨q, ws, rfl, g0, List.mem_cons_of_mem _ gp, e _ _ gl, dpa_mono sm xs ws gd⟩
  · rcases set_get ha with ⟨z1, ea, hl⟩ | ⟨h1, ha'⟩
    · rcases set_get hb with ⟨z2, _, _⟩ | ⟨h2', hb'⟩
      · exact hab (z1.trans z2.symm)
      · rw [z1, List.getElem?_set_self (by rw [← c.len]; exact hl)] at sa
        cases sa
        rw [List.getElem?_set_ne h2'.symm] at sb
        exact old _ _ _ hb' sb rfl
    · rcases set_get hb with ⟨z2, eb, hl⟩ | ⟨h2', hb'⟩
      · rw [z2, List.getElem?_set_self (by rw [← c.len]; exact hl)] at sb
        cases sb
        rw [List.getElem?_set_ne h1.symm] at sa
        exact old _ _ _ ha' sa rfl
      · rw [List.getElem?_set_ne h1.symm] at sa
        rw [List.getElem?_set_ne h2'.symm] at sb
        exact c.di _ _ xs ys q hab ha' hb' sa sb
/-- a slot's list is shared from now on -/
theorem Cor.freeze (c : Cor K H0 Z O ρ σ H) {i : Nat} {ds : List PyData} (e : ρ[i]? = some (some (.bo ds))) :
    ∃ O', Cor K H0 Z O' (ρ.set i (some (.sh (.list ds)))) σ H ∧ Same (off H O) (off H O') := by
  obtain ⟨v, h1, ⟨p, vs, rfl, h0, hp, hl, hd⟩, _⟩ := c.sl i _ e
  have sub : ∀ b ∈ O.filter (fun b => b != p), b ∈ O := fun b hb => (List.mem_filter.mp hb).1
  have np : p ∉ O.filter (fun b => b != p) := fun z => absurd rfl (bne_iff_ne.mp (List.mem_filter.mp z).2)
  have sm : Same (off H O) (off H (O.filter (fun b => b != p))) := off_sub sub
  have hi : i < ρ.length := (List.getElem?_eq_some_iff.mp e).1
  refine ⟨_, ⟨⟨c.bs.same, fun q hq => List.mem_filter.mpr ⟨c.bs.zo q hq, bne_iff_ne.mpr fun z => c.bs.nz h0 (by rw [← z]; exact hq)⟩, c.bs.z0, fun q hq => c.bs.live q (sub q hq)⟩, fun j r ej => ?_, fun a b xs ys q hab ha hb sa sb => ?_, by rw [List.length_set]; exact c.len⟩, sm⟩
  · rcases set_get ej with ⟨rfl, ej, _⟩ | ⟨hj, ej⟩
    · cases ej
      exact ⟨_, h1, Dp.lst (SqL.of (by rw [off_out np]; exact hl)) (dpa_mono sm ds vs hd), fun _ z => by cases z⟩
    · obtain ⟨w, e1, e2, e3⟩ := c.sl j r ej
      refine ⟨w, e1, ?_, e3⟩
      cases r with
      | sh d => exact dp_mono sm d w e2
      | fr xs => exact absurd rfl (e3 xs)
      | bo xs =>
        obtain ⟨q, ws, rfl, g0, gp, gl, gd⟩ := e2
        refine ⟨q, ws, rfl, g0, List.mem_filter.mpr ⟨gp, bne_iff_ne.mpr fun z => ?_⟩, gl, dpa_mono sm xs ws gd⟩
        subst z
        exact c.di j i xs ds q hj ej e e1 h1
  · rcases set_get ha with ⟨_, ea, _⟩ | ⟨_, ha⟩
    · cases ea
    · rcases set_get hb with ⟨_, eb, _⟩ | ⟨_, hb⟩
      · cases eb
      · exact c.di a b xs ys q hab ha hb sa sb
end
end F3
set_option maxRecDepth 100000
namespace F3
open PySem PySem.Spec PyProof.Rows L2

/-- what a def of data promises: it hands back g of its arguments; nothing that stood is changed; what is owned elsewhere (Z) is not reached -/
def spD (K : PySem.W.Frag) (n : Nat) (g : List PyData → Option Res) : Sp := fun vs H Q _ =>
  vs.length = n ∧ ∃ ds r Z, (∀ p ∈ Z, ∃ o, H p = some o) ∧ DpAll K (off H Z) vs ds ∧ g ds = some r ∧ ∀ v H', Same H H' → Vl K H H Z H' r v → Q v H'

/-- a def keeps a promise, where no repr runs -/
structure FnG (P : Program) (w : World) (K : PySem.W.Frag) (mg : Str → Option Value) (base : Heap) (k : Nat) (f : Addr) (fd : FuncData) (ps : List Str) (sp : Sp) : Prop where
  len : ∀ vs H Q E, sp vs H Q E → vs.length = ps.length
  run : ∀ (A : Around) (outer : List PySem.Env) (s : Shared) (H : Hp) (args : Args) (us : List Value) (vs : List V) (Q : VK),
    Room k A → A.guards = some [] → Env0 P w K mg base A outer s H → BindsTo s fd args (ps.zip us) → Vals vs us → sp vs H Q E0 →
      codeAny (model P w) A (.call (.ref f) args) (CR CX0 outer P w H s Q E0) s
theorem FnG.mono {P : Program} {w : World} {K : PySem.W.Frag} {mg : Str → Option Value} {base : Heap} {j k : Nat} {f : Addr} {fd : FuncData} {ps : List Str} {sp : Sp}
    (F : FnG P w K mg base j f fd ps sp) (h : j ≤ k) : FnG P w K mg base k f fd ps sp :=
  ⟨F.len, fun A o s H a us vs Q hr => F.run A o s H a us vs Q (hr.mono h)⟩

section
variable {P : Program} {w : World} {K : PySem.W.Frag} {mg : Str → Option Value} {base : Heap}
/-- a def's promise by its body -/
theorem fnG_of {x qual : Str} {st : Stmt} {f : Addr} {fd : FuncData} {N ps : List Str} {k : Nat} {sp : Sp} (F : Fun K x qual st f fd) (S : FnScope N ps (defScope st))
    (len : ∀ vs H Q E, sp vs H Q E → vs.length = ps.length)
    (body : ∀ (cdv : Value) (A : Around) (outer : List PySem.Env) (s : Shared) (H : Hp) (vs : List V) (Q : VK),
      Room k (A.deeper (envOfC qual (defScope st) s.heap.objs.size f cdv)) → A.guards = some [] → sp vs H Q E0 →
      ∃ t, PSs (cxOf CX0 P w K mg base N qual (defScope st) f cdv A outer s H E0).nox (defBody st) t ∧
        t { nx := fun _ H' => Q .non H', rt := Q } (start N vs) H) : FnG P w K mg base (k + 1) f fd ps sp := by
  obtain ⟨oc, od, kV, doc, pm, an, cdv, ct, osl, rfl, lk, hcd⟩ := F.ex
  refine ⟨len, fun A outer s H args us vs Q hr hg e0 hb r hsp => ?_⟩
  have KX : K.In s.heap := e0.mod.kin.keeps fun b o e => (e0.bs b o e).1
  have lim : s.heap.NoLimit := e0.mod.nolimit.keeps fun b o e => (e0.bs b o e).1
  refine codeAny_call_function hr.depth (KX _ _ lk) rfl S.co S.gen rfl
    (PySem.W.codeRec_of KX hcd) (hb _ _ _ _ ?_)
  refine wpAny_newFunctionEnv_cells S.kind (fun y hy => ?_) fun env he s1 x => ?_
  · obtain ⟨n, v⟩ := y
    cases S.par n (List.of_mem_zip hy).1 with
    | inl q => exact .inl q
    | inr q => exact .inr ⟨q, PySem.W.cellsFrom_some _ _ _ (.inl q)⟩
  subst he
  refine ⟨lim.keeps x.toInCall.keep, codeAny_func ?_⟩
  obtain ⟨t, ht, hq⟩ := body cdv A outer s H vs Q (hr.deeper _) hg hsp
  have I := inv_start (CX := CX0) (E := E0) S hr.hd e0 (len _ _ _ _ hsp) r x
  refine wpAny_mono (ht.nox.run [] s1 (start N vs) H _ I hq) (fun fl s' hs => ?_) fun e s' hs => hs
  cases fl with
  | ret u =>
    obtain ⟨v, σ', H', J, rv, q⟩ := hs
    exact ⟨v, H', J.os, J.bare, J.base, J.hok, rv, q⟩
  | next =>
    obtain ⟨σ', H', J, q⟩ := hs
    exact ⟨.non, H', J.os, J.bare, J.base, J.hok, rfl, q⟩
  | brk =>
    obtain ⟨_, _, _, q⟩ := hs
    exact q.elim
  | cont =>
    obtain ⟨_, _, _, q⟩ := hs
    exact q.elim
end

section
variable {X : Cx} {k : Nat} {f : Addr} {fd : FuncData} {ps : List Str} {sp : Sp} {x : Str} {p pos : Pos} {e : Expr} {es : List Expr} {t : TA}
def tCallD (sp : Sp) (t : TA) : TE := fun σ H Q => t σ H fun vs H1 => sp vs H1 Q E0
theorem runG {pins : List (Addr × Obj)} {σ : L2.St} {H : Hp} {s : Shared} {Q : VK} {us : List Value} {vs : List V}
    (F : FnG X.prog X.w X.K X.mg X.base k f fd ps sp) (hr : Room k X.A) (hG : X.A.guards = some []) (hb : Binds X.K fd ps [])
    (I : Inv X pins σ H s) (r : Vals vs us) (h : sp vs H Q E0) : wpAny (model X.prog X.w) X.A (call (.ref f) us) (EP X pins σ Q) X.xe s := by
  have hl : (us ++ []).length = ps.length := by rw [List.append_nil, ← r.length]; exact F.len _ _ _ _ h
  have hB := hb s us I.kIn hl
  rw [List.append_nil] at hB
  refine wpAny_call (codeAny_mono (F.run X.A X.stack s H ⟨us, []⟩ us vs Q hr hG I.env0 hB r h) fun r s' hq => ?_)
  cases r with
  | error e => exact hq.elim
  | ok fl =>
    cases fl with
    | ret u => exact I.after hq
    | next => exact hq.elim
    | brk => exact hq.elim
    | cont => exact hq.elim
theorem pe_callG (F : FnG X.prog X.w X.K X.mg X.base k f fd ps sp) (hr : Room k X.A) (hG : X.A.guards = some []) (hg : Gl X x) (hm : X.mg x = some (.ref f))
    (hk : PySem.W.keepIn X.K (.ref f) = true) (hb : Binds X.K fd ps []) (ha : PA X (e :: es) t)
    (hdb : (x == ("__debug__" : Str)) = false := by decide) (he : starEach (e :: es) X.env = (false, eval e X.env) :: starEach es X.env := by rfl)
    (hpl : (backTo pos (starEach es X.env)).any (·.1) = false := by rfl) : PE X (.Call (.Name x p) (e :: es) [] pos) (tCallD sp t) := by
  refine ⟨fun pins s σ H Q I h => wpAny_Call_Name_kw (ld_glob I hg hm ?_ hdb)⟩
  refine PySem.W.callWith_K (h₀ := X.base) I.ok.mod.kin hk
    (thn (ha.run pos pins s σ H _ I h) fun us s1 ⟨vs, H1, I1, r, q⟩ => ⟨I1.kIn, runG F hr hG hb I1 r q⟩) he hpl
theorem pe_callG0 (F : FnG X.prog X.w X.K X.mg X.base k f fd ps sp) (hr : Room k X.A) (hG : X.A.guards = some []) (hg : Gl X x) (hm : X.mg x = some (.ref f))
    (hk : PySem.W.keepIn X.K (.ref f) = true) (hb : Binds X.K fd ps []) (hdb : (x == ("__debug__" : Str)) = false := by decide) :
    PE X (.Call (.Name x p) [] [] pos) (tCallD sp tNil) :=
  ⟨fun pins s σ H Q I h => wpAny_Call_Name_kw (ld_glob I hg hm (PySem.W.callWith_K0 I.kIn hk (runG (us := []) F hr hG hb I .nil h)) hdb)⟩
end

/-! ### the end: the law's call -/
section
/-- as FnOk at the one place where the law is called -/
theorem FnG.top {P : Program} {w : World} {K : PySem.W.Frag} {mg : Str → Option Value} {base : Heap} {k : Nat} {f : Addr} {fd : FuncData} {ps : List Str} {sp : Sp}
    (F : FnG P w K mg base k f fd ps sp) : ∀ (s : Shared) (H : Hp) (args : Args) (us : List Value) (vs : List V) (Q : VK), Room k callerA → Env0 P w K mg base callerA [] s H →
      BindsTo s fd args (ps.zip us) → Vals vs us → sp vs H Q E0 → codeAny (model P w) callerA (.call (.ref f) args) (CR CX0 [] P w H s Q E0) s :=
  fun s H args us vs Q hr he => F.run callerA [] s H args us vs Q hr rfl he
end
end F3
set_option maxRecDepth 100000
namespace F3
open PySem PySem.Spec PyProof.Rows L2

/-- the call of the law's def, from an abstract heap in which at most the script is tracked -/
theorem callG {P : Program} {w : World} {K : PySem.W.Frag} {mg mb : Str → Option Value} {k : Nat} {fa a : Addr} {fd : FuncData} {x : Str} {sp : Sp} {s₁ : Shared} {H : Hp}
    (KX : K.In s₁.heap) (hns : s₁.heap.Ns mainGlobals mg) (hb : s₁.heap.Ns builtinsNs mb) (hbb : ∀ x : Str, x ≠ "__name__" → mb x = bootBuiltins x)
    (hlim : s₁.heap.NoLimit) (hg : s₁.gens = #[]) (hr : Room k callerA)
    (F : ∀ base : Heap, K.In base → base.Ns mainGlobals mg → FnG P w K mg base k fa fd [x] sp)
    (hbind : ∀ (s : Shared) (u : Value), BindsTo s fd ⟨[u], []⟩ [(x, u)])
    (hsp : sp [.ref a] H (fun v _ => v = .bl true) E0)
    (hO : Only H) (hok : HOk P w H s₁.heap) (nd : ∀ b o es ep, s₁.heap.get? b = some o → o.data = .dict es ep → H b = none)
    (nk : ∀ b o, K.lookup b = some o → H b = none) :
    codeAny (model P w) callerA (.call (.ref fa) ⟨[.ref a], []⟩)
      (fun r s' => r = .ok (.ret (.bool true)) ∧ OldK s₁.heap s'.heap ∧ s'.os = s₁.os ∧ AllBare s'.gens) s₁ := by
  have ns : ∀ {b : Addr} {m : Str → Option Value}, s₁.heap.Ns b m → (hidT s₁.heap H).Ns b m := fun {b m} h => by
    obtain ⟨o, es, ep, e, d, r⟩ := h
    exact ⟨o, es, ep, hidT_get e (nd b o es ep e d), d, r⟩
  have hK : K.In (hidT s₁.heap H) := fun b o e => hidT_get (KX b o e) (nk b o e)
  obtain ⟨mc, l1, l2⟩ := hlim
  have e0 : Env0 P w K mg (hidT s₁.heap H) callerA [] s₁ H :=
    { frames := rfl, mod := ⟨hK, ns hns, ⟨mb, ns hb, hbb⟩, ⟨mc, ns l1, l2⟩⟩, bs := fun b o e => of_hidT e, bsz := Nat.le_of_eq (hidT_size _ _),
      funs := trivial, frf := (fun b hb => nomatch hb), hok := hok, bare := .of_eq hg }
  have G := (F _ hK (ns hns)).top s₁ H ⟨[.ref a], []⟩ [.ref a] [.ref a] _ hr e0 (hbind s₁ (.ref a)) (.cons rfl .nil) hsp
  refine codeAny_mono G fun r s' h => ?_
  match r, h with
  | .error e, h => exact h.elim
  | .ok .next, h => exact h.elim
  | .ok .brk, h => exact h.elim
  | .ok .cont, h => exact h.elim
  | .ok (.ret u), h =>
    obtain ⟨v, H', os, bare, un, hok', r', q⟩ := h
    cases (show v = .bl true from q)
    cases (show u = Value.bool true from r')
    refine ⟨rfl, OldK.of_keep fun b o e => ?_, os, bare⟩
    rcases hO b with z | ⟨ob, xs, z⟩
    · exact un.keep b o e z (fun y => nomatch y) (fun y => nomatch y)
    · have e1 := (hok b _ z).1
      rw [e] at e1
      cases e1
      exact (hok' b _ (un.frzs b _ _ z)).1

/-- what k_head leaves, from the law's def's promise -/
theorem walkG {l : PySem.W.OpenLaw} {n k : Nat} {q : Program} {loose : List Str} {XP : (Str → Option Value) → Heap → Prop} {YP : World → Heap → Prop} {d : DefRec} {K : Params → PySem.W.Frag} {sp : World → Sp} {x : Str}
    (hn : l.most = some n) (hn2 : n ≤ sizeLine) (hdf : d.params.defaults = []) (hr : Room k callerA)
    (hY : ∀ (w : World) (h : Heap), YP w h → (K w.params).In h)
    (F : ∀ (w : World) (mg : Str → Option Value) (fa : Addr) (h : Heap), (K w.params).In h → h.Ns mainGlobals mg → mg d.name = some (.ref fa) →
      ∃ fd : FuncData, (∀ (s : Shared) (u : Value), BindsTo s fd ⟨[u], []⟩ [(x, u)]) ∧
        ∀ base : Heap, (K w.params).In base → base.Ns mainGlobals mg → FnG l.prog w (K w.params) mg base k fa fd [x] (sp w))
    (hsp : ∀ (w : World) (H : Hp) (a : Addr) (ns : List Int), ns.length ≤ n → Only H → SqL (K w.params) H a (ns.map V.int) → sp w [.ref a] H (fun v _ => v = .bl true) E0) :
    PySem.W.WalkO q loose XP YP l.row.toRowW d [] (fun f vs => PySem.call f vs) := by
  refine Att.attach_call hn hdf fun w s₀ s₁ mg mb fa o pm cd doc a vs ns G Y ho hd hcd hmg ha hi hlen hg => ?_
  have KX := hY w _ Y
  obtain ⟨fd, hb, hF⟩ := F w mg fa _ KX G.T.g hmg
  have rv := vals_ints hi
  have hl : ns.length ≤ sizeLine := Nat.le_trans hlen hn2
  cases hk : (K w.params).lookup a with
  | some o =>
    have e := KX a o hk
    rw [ha] at e
    cases e
    have hO : Only (fun _ => none) := fun _ => .inl rfl
    refine callG (H := fun _ => none) KX G.T.g G.T.b G.T.builtins G.T.nolimit hg hr hF hb
      (hsp w _ a ns hlen hO (.inr ⟨_, vs.toArray, _, hk, rfl, rfl, rfl, ?_, by simpa using rv⟩)) hO (fun b u z => (nomatch (show (none : Option HO) = some u from z))) (fun _ _ _ _ _ _ => rfl) fun _ _ _ => rfl
    rw [List.size_toArray, hi.length]
    exact hl
  | none =>
    let H : Hp := fun b => if b = a then some (.frz { cls := .type "list", data := .seq vs.toArray } (.lst (ns.map V.int))) else none
    have H1 : H a = some (.frz { cls := .type "list", data := .seq vs.toArray } (.lst (ns.map V.int))) := if_pos rfl
    have H2 : ∀ b, b ≠ a → H b = none := fun b hb => if_neg hb
    have hO : Only H := fun b => by
      by_cases hb : b = a
      · rw [hb]; exact .inr ⟨_, _, H1⟩
      · exact .inl (H2 b hb)
    refine callG (H := H) KX G.T.g G.T.b G.T.builtins G.T.nolimit hg hr hF hb (hsp w H a ns hlen hO (.inl (.inr ⟨_, H1⟩))) hO (fun b u z => ?_) (fun b o es ep e d => ?_) fun b o e => ?_
    · by_cases hb : b = a
      · subst hb
        rw [H1] at z
        cases z
        exact ⟨ha, by rw [List.length_map]; exact hl, vs, _, rv, ha⟩
      · rw [H2 b hb] at z; cases z
    · refine H2 b fun z => ?_
      subst z
      rw [ha] at e
      cases e
      exact nomatch (show Data.seq vs.toArray _ = Data.dict es ep from d)
    · refine H2 b fun z => ?_
      subst z
      rw [hk] at e
      cases e
end F3
set_option maxRecDepth 100000
namespace F3
open PySem PySem.Spec PyProof.Rows L2

/-- the longest list that is made -/
@[simp] abbrev LIM : Nat := 1000000
theorem lim_line {n : Nat} (h : n ≤ LIM) : n ≤ sizeLine := Nat.le_trans h (by decide)
theorem lim_lt {n : Nat} (h : n ≤ LIM) : n < sizeLine := Nat.lt_of_le_of_lt h (by decide)

def EOk (K : PySem.W.Frag) (t : TE) (f : Rh → Option Res) : Prop := ∀ (H0 : Hp) (Z O : List Addr) (ρ : Rh) (r : Res) (σ : L2.St) (H : Hp) (Q : VK),
  f ρ = some r → Cor K H0 Z O ρ σ H → (∀ v H', Same H H' → Vl K H0 H O H' r v → Q v H') → t σ H Q
def AOk (K : PySem.W.Frag) (t : TA) (f : Rh → Option (List Res)) : Prop := ∀ (H0 : Hp) (Z O : List Addr) (ρ : Rh) (r : List Res) (σ : L2.St) (H : Hp) (Q : List V → Hp → Prop),
  f ρ = some r → Cor K H0 Z O ρ σ H → (∀ v H', Same H H' → Paired (Vl K H0 H O H') r v → Q v H') → t σ H Q
def TOk (K : PySem.W.Frag) (t : TT) (f : Rh → Option Bool) : Prop := ∀ (H0 : Hp) (Z O : List Addr) (ρ : Rh) (b : Bool) (σ : L2.St) (H : Hp) (Q : Bool → Hp → Prop),
  f ρ = some b → Cor K H0 Z O ρ σ H → (∀ H', Same H H' → Q b H') → t σ H Q
/-- by values -/
def R1ok (K : PySem.W.Frag) (r : V → Hp → VK → Prop) (g : Res → Option Res) : Prop := ∀ (H0 : Hp) (Z O : List Addr) (Hs H : Hp) (x : V) (a c : Res) (Q : VK),
  g a = some c → Bs H0 Z O H → Same Hs H → Vl K H0 Hs O H a x → (∀ v H', Same H H' → Vl K H0 Hs O H' c v → Q v H') → r x H Q
def R2ok (K : PySem.W.Frag) (r : R2) (g : Res → Res → Option Res) : Prop := ∀ (H0 : Hp) (Z O : List Addr) (Hs H : Hp) (x y : V) (a b c : Res) (Q : VK),
  g a b = some c → Bs H0 Z O H → Same Hs H → Vl K H0 Hs O H a x → Vl K H0 Hs O H b y → (∀ v H', Same H H' → Vl K H0 Hs O H' c v → Q v H') → r x y H Q
def CRok (K : PySem.W.Frag) (r : List V → Hp → VK → Prop) (g : List Res → Option Res) : Prop := ∀ (H0 : Hp) (Z O : List Addr) (Hs H : Hp) (xs : List V) (as : List Res) (c : Res) (Q : VK),
  g as = some c → Bs H0 Z O H → Same Hs H → Paired (Vl K H0 Hs O H) as xs → (∀ v H', Same H H' → Vl K H0 Hs O H' c v → Q v H') → r xs H Q

/-! ### names, constants -/
def eVar (i : Nat) : Rh → Option Res := fun ρ => match ρ[i]? with | some x => x | none => none
@[simp] def eC (d : PyData) : Rh → Option Res := fun _ => some (.sh d)
section
variable {K : PySem.W.Frag}
theorem eok_var (i : Nat) : EOk K (tVar i) (eVar i) := fun H0 Z O ρ r σ H Q e c q => by
  unfold eVar at e
  cases h : ρ[i]? with
  | none => rw [h] at e; cases e
  | some x =>
    rw [h] at e
    obtain ⟨v, e1, e2, e3⟩ := c.sl i r (by rw [h]; exact congrArg some e)
    refine ⟨v, e1, q v H (Same.refl H) ?_⟩
    cases r with
    | sh d => exact e2
    | fr ds => exact absurd rfl (e3 ds)
    | bo ds => exact e2
theorem eok_const {v : V} {d : PyData} (h : ∀ H, Dp K H v d) : EOk K (tC v) (eC d) := fun H0 Z O ρ r σ H Q e c q => by
  cases e
  exact q v H (Same.refl H) (h _)
theorem eok_int (i : Int) : EOk K (tC (.int i)) (eC (.int i)) := eok_const fun _ => .int i
theorem eok_bool (b : Bool) : EOk K (tC (.bl b)) (eC (.bool b)) := eok_const fun _ => .bl b
theorem eok_none : EOk K (tC .non) (eC .none) := eok_const fun _ => .non
theorem eok_str (x : Str) : EOk K (tC (.str x)) (eC (.str x)) := eok_const fun _ => .str x

/-! ### operators -/
@[simp] def eUn (g : Res → Option Res) (a : Rh → Option Res) : Rh → Option Res := fun ρ => (a ρ).bind g
@[simp] def eBin (g : Res → Res → Option Res) (a b : Rh → Option Res) : Rh → Option Res := fun ρ => (a ρ).bind fun x => (b ρ).bind fun y => g x y
theorem bind_some {α β : Type} {x : Option α} {f : α → Option β} {b : β} (h : x.bind f = some b) : ∃ a, x = some a ∧ f a = some b := by
  cases x with
  | none => cases h
  | some a => exact ⟨a, rfl, h⟩
theorem eok_un {r : V → Hp → VK → Prop} {g : Res → Option Res} {ta : TE} {a : Rh → Option Res} (ho : R1ok K r g) (ha : EOk K ta a) : EOk K (tUn r ta) (eUn g a) :=
  fun H0 Z O ρ z σ H Q e c q => by
    obtain ⟨x, e1, e⟩ := bind_some e
    exact ha H0 Z O ρ x σ H _ e1 c fun v H1 s1 v1 => ho H0 Z O H H1 v x z Q e (c.bs.mono s1) s1 v1 fun u H2 s2 v2 => q u H2 (s1.trans s2) v2
theorem eok_op {r : R2} {g : Res → Res → Option Res} {ta tb : TE} {a b : Rh → Option Res} (ho : R2ok K r g) (ha : EOk K ta a) (hb : EOk K tb b) : EOk K (tOp r ta tb) (eBin g a b) :=
  fun H0 Z O ρ z σ H Q e c q => by
    obtain ⟨x, e1, e⟩ := bind_some e
    obtain ⟨y, e2, e⟩ := bind_some e
    exact ha H0 Z O ρ x σ H _ e1 c fun v H1 s1 v1 => hb H0 Z O ρ y σ H1 _ e2 (c.mono s1) fun u H2 s2 v2 =>
      ho H0 Z O H H2 v u x y z Q e (c.bs.mono (s1.trans s2)) (s1.trans s2) (v1.mono s2) (v2.anti s1) fun w H3 s3 v3 => q w H3 ((s1.trans s2).trans s3) v3

/-! ### arguments, displays, calls -/
@[simp] def aNil : Rh → Option (List Res) := fun _ => some []
@[simp] def aCons (a : Rh → Option Res) (as : Rh → Option (List Res)) : Rh → Option (List Res) := fun ρ => (a ρ).bind fun x => (as ρ).bind fun xs => some (x :: xs)
theorem aok_nil : AOk K tNil aNil := fun H0 Z O ρ z σ H Q e c q => by
  cases e
  exact q [] H (Same.refl H) .nil
theorem aok_cons {ta : TE} {t : TA} {a : Rh → Option Res} {as : Rh → Option (List Res)} (ha : EOk K ta a) (hr : AOk K t as) : AOk K (tCons ta t) (aCons a as) :=
  fun H0 Z O ρ z σ H Q e c q => by
    obtain ⟨x, e1, e⟩ := bind_some e
    obtain ⟨xs, e2, e⟩ := bind_some e
    cases e
    exact ha H0 Z O ρ x σ H _ e1 c fun v H1 s1 v1 => hr H0 Z O ρ xs σ H1 _ e2 (c.mono s1) fun vs H2 s2 v2 =>
      q (v :: vs) H2 (s1.trans s2) (.cons (v1.mono s2) (Paired.mapP v2 fun _ _ z => z.anti s1))
def shrs : List Res → Option (List PyData)
  | [] => some []
  | r :: rs => match r.shr, shrs rs with
    | some d, some ds => some (d :: ds)
    | _, _ => none
theorem shrs_ok {H0 Hs H : Hp} {O : List Addr} : ∀ {rs : List Res} {vs : List V} {ds : List PyData}, Paired (Vl K H0 Hs O H) rs vs → shrs rs = some ds → DpAll K (off H O) vs ds ∧ ds.length = rs.length
  | [], _, _, .nil, e => by cases e; exact ⟨.nil, rfl⟩
  | r :: rs, _, ds, .cons h t, e => by
    unfold shrs at e
    cases e1 : r.shr with
    | none => rw [e1] at e; cases e
    | some d =>
      cases e2 : shrs rs with
      | none => rw [e1, e2] at e; cases e
      | some es =>
        rw [e1, e2] at e
        cases e
        obtain ⟨h1, h2⟩ := shrs_ok t e2
        exact ⟨.cons (h.shr e1) h1, by rw [List.length_cons, List.length_cons, h2]⟩
@[simp] def eTup (as : Rh → Option (List Res)) : Rh → Option Res := fun ρ => (as ρ).bind fun rs => (shrs rs).bind fun ds => if ds.length ≤ LIM then some (.sh (.tuple ds)) else none
@[simp] def eLst (as : Rh → Option (List Res)) : Rh → Option Res := fun ρ => (as ρ).bind fun rs => (shrs rs).bind fun ds => if ds.length ≤ LIM then some (.fr ds) else none
theorem ite_some {c : Prop} [Decidable c] {α : Type} {a b : α} (h : (if c then some a else none) = some b) : c ∧ a = b := by
  by_cases hc : c
  · rw [if_pos hc] at h; exact ⟨hc, Option.some.inj h⟩
  · rw [if_neg hc] at h; cases h
theorem eok_tup {t : TA} {as : Rh → Option (List Res)} (ha : AOk K t as) : EOk K (tTup t) (eTup as) := fun H0 Z O ρ z σ H Q e c q => by
  obtain ⟨rs, e1, e⟩ := bind_some e
  obtain ⟨ds, e2, e⟩ := bind_some e
  obtain ⟨hl, rfl⟩ := ite_some e
  refine ha H0 Z O ρ rs σ H _ e1 c fun vs H1 s1 v1 => ?_
  obtain ⟨h1, h2⟩ := shrs_ok v1 e2
  exact ⟨by rw [dpa_len h1]; exact lim_line hl, fun p hp => q _ _ (s1.trans (same_new hp)) (Vl.newT (c.bs.mono s1) hp h1)⟩
theorem eok_lst {t : TA} {as : Rh → Option (List Res)} (ha : AOk K t as) : EOk K (tLst t) (eLst as) := fun H0 Z O ρ z σ H Q e c q => by
  obtain ⟨rs, e1, e⟩ := bind_some e
  obtain ⟨ds, e2, e⟩ := bind_some e
  obtain ⟨hl, rfl⟩ := ite_some e
  refine ha H0 Z O ρ rs σ H _ e1 c fun vs H1 s1 v1 => ?_
  obtain ⟨h1, h2⟩ := shrs_ok v1 e2
  exact ⟨by rw [dpa_len h1]; exact lim_line hl, fun p hp => q _ _ (s1.trans (same_new hp)) (Vl.newL (c.bs.mono s1) s1 hp h1)⟩
/-- a built-in -/
@[simp] def eCall (g : List Res → Option Res) (as : Rh → Option (List Res)) : Rh → Option Res := fun ρ => (as ρ).bind g
theorem eok_callB {r : List V → Hp → VK → Prop} {g : List Res → Option Res} {t : TA} {as : Rh → Option (List Res)} (ho : CRok K r g) (ha : AOk K t as) : EOk K (tCB r t) (eCall g as) :=
  fun H0 Z O ρ z σ H Q e c q => by
    obtain ⟨rs, e1, e⟩ := bind_some e
    exact ha H0 Z O ρ rs σ H _ e1 c fun vs H1 s1 v1 => ho H0 Z O H H1 vs rs z Q e (c.bs.mono s1) s1 v1 fun u H2 s2 v2 => q u H2 (s1.trans s2) v2
/-- a def of the text -/
@[simp] def eFn (g : List PyData → Option Res) (as : Rh → Option (List Res)) : Rh → Option Res := fun ρ => (as ρ).bind fun rs => (shrs rs).bind g
theorem eok_fn {n : Nat} {g : List PyData → Option Res} {t : TA} {as : Rh → Option (List Res)} (ha : AOk K t as) (hn : ∀ ρ rs, as ρ = some rs → rs.length = n) : EOk K (tCallD (spD K n g) t) (eFn g as) :=
  fun H0 Z O ρ z σ H Q e c q => by
    obtain ⟨rs, e1, e⟩ := bind_some e
    obtain ⟨ds, e2, e⟩ := bind_some e
    refine ha H0 Z O ρ rs σ H _ e1 c fun vs H1 s1 v1 => ?_
    obtain ⟨h1, h2⟩ := shrs_ok v1 e2
    refine ⟨by rw [dpa_len h1, h2]; exact hn ρ rs e1, ds, z, O, (c.bs.mono s1).live, h1, e, fun v H2 s2 v2 => q v H2 (s1.trans s2) ?_⟩
    cases z with
    | sh d => exact v2
    | fr es => exact v2.anti s1
    | bo es =>
      obtain ⟨p, ws, g1, g2, g3, g4⟩ := v2
      exact ⟨p, ws, g1, (c.bs.mono s1).same.free g2, g3, g4⟩
theorem an_nil : ∀ (ρ : Rh) rs, aNil ρ = some rs → rs.length = 0 := fun _ _ e => by cases e; rfl
theorem an_cons {n : Nat} {a : Rh → Option Res} {as : Rh → Option (List Res)} (h : ∀ ρ rs, as ρ = some rs → rs.length = n) : ∀ (ρ : Rh) rs, aCons a as ρ = some rs → rs.length = n + 1 := fun ρ rs e => by
  obtain ⟨x, e1, e⟩ := bind_some e
  obtain ⟨xs, e2, e⟩ := bind_some e
  cases e
  rw [List.length_cons, h ρ xs e2]

/-! ### tests -/
def Res.tob : Res → Option Bool
  | .sh (.bool b) => some b
  | _ => none
theorem Vl.tob {H0 Hs H : Hp} {O : List Addr} {r : Res} {b : Bool} {v : V} (h : Vl K H0 Hs O H r v) (e : r.tob = some b) : v = .bl b := by
  cases r with
  | sh d => cases d <;> cases e; exact h.to_bool
  | fr ds => cases e
  | bo ds => cases e
@[simp] def tOf (a : Rh → Option Res) : Rh → Option Bool := fun ρ => (a ρ).bind Res.tob
theorem tok_test {t : TE} {a : Rh → Option Res} (ha : EOk K t a) : TOk K (tTest t) (tOf a) := fun H0 Z O ρ b σ H Q e c q => by
  obtain ⟨r, e1, e⟩ := bind_some e
  exact ha H0 Z O ρ r σ H _ e1 c fun v H1 s1 v1 => ⟨b, v1.tob e, q H1 s1⟩
theorem tok_val {t : TE} {a : Rh → Option Res} (ha : EOk K t a) : TOk K (tB t) (tOf a) := fun H0 Z O ρ b σ H Q e c q => by
  obtain ⟨r, e1, e⟩ := bind_some e
  exact ha H0 Z O ρ r σ H _ e1 c fun v H1 s1 v1 => ⟨b, v1.tob e, q H1 s1⟩
@[simp] def tAndD (a b : Rh → Option Bool) : Rh → Option Bool := fun ρ => (a ρ).bind fun x => if x = true then b ρ else some false
@[simp] def tOrD (a b : Rh → Option Bool) : Rh → Option Bool := fun ρ => (a ρ).bind fun x => if x = true then some true else b ρ
@[simp] def tNotD (a : Rh → Option Bool) : Rh → Option Bool := fun ρ => (a ρ).bind fun x => some (!x)
theorem tok_and {t u : TT} {a b : Rh → Option Bool} (ha : TOk K t a) (hb : TOk K u b) : TOk K (tAnd t u) (tAndD a b) := fun H0 Z O ρ z σ H Q e c q => by
  obtain ⟨x, e1, e⟩ := bind_some e
  refine ha H0 Z O ρ x σ H _ e1 c fun H1 s1 => ?_
  by_cases hx : x = true
  · rw [if_pos hx] at e ⊢
    exact hb H0 Z O ρ z σ H1 _ e (c.mono s1) fun H2 s2 => q H2 (s1.trans s2)
  · rw [if_neg hx] at e ⊢
    cases e
    exact q H1 s1
theorem tok_or {t u : TT} {a b : Rh → Option Bool} (ha : TOk K t a) (hb : TOk K u b) : TOk K (tOr t u) (tOrD a b) := fun H0 Z O ρ z σ H Q e c q => by
  obtain ⟨x, e1, e⟩ := bind_some e
  refine ha H0 Z O ρ x σ H _ e1 c fun H1 s1 => ?_
  by_cases hx : x = true
  · rw [if_pos hx] at e ⊢
    cases e
    exact q H1 s1
  · rw [if_neg hx] at e ⊢
    exact hb H0 Z O ρ z σ H1 _ e (c.mono s1) fun H2 s2 => q H2 (s1.trans s2)
theorem tok_not {t : TT} {a : Rh → Option Bool} (ha : TOk K t a) : TOk K (tNot t) (tNotD a) := fun H0 Z O ρ z σ H Q e c q => by
  obtain ⟨x, e1, e⟩ := bind_some e
  cases e
  exact ha H0 Z O ρ x σ H _ e1 c fun H1 s1 => q H1 s1
/-- .. as values -/
@[simp] def eAndD (a b : Rh → Option Res) : Rh → Option Res := fun ρ => (a ρ).bind fun x => x.tob.bind fun k => if k = true then b ρ else some (.sh (.bool false))
@[simp] def eOrD (a b : Rh → Option Res) : Rh → Option Res := fun ρ => (a ρ).bind fun x => x.tob.bind fun k => if k = true then some (.sh (.bool true)) else b ρ
@[simp] def eNotD (a : Rh → Option Res) : Rh → Option Res := fun ρ => (a ρ).bind fun x => x.tob.bind fun k => some (.sh (.bool (!k)))
theorem vl_anti {H0 H H1 H2 : Hp} {O : List Addr} {r : Res} {v : V} (s : Same H H1) (h : Vl K H0 H1 O H2 r v) : Vl K H0 H O H2 r v := h.anti s
theorem eok_and {t u : TE} {a b : Rh → Option Res} (ha : EOk K t a) (hb : EOk K u b) : EOk K (tAndV t u) (eAndD a b) := fun H0 Z O ρ z σ H Q e c q => by
  obtain ⟨x, e1, e⟩ := bind_some e
  obtain ⟨k, e2, e⟩ := bind_some e
  refine ha H0 Z O ρ x σ H _ e1 c fun v H1 s1 v1 => ⟨k, v1.tob e2, ?_⟩
  by_cases hx : k = true
  · rw [if_pos hx] at e ⊢
    exact hb H0 Z O ρ z σ H1 _ e (c.mono s1) fun u H2 s2 v2 => q u H2 (s1.trans s2) (v2.anti s1)
  · rw [if_neg hx] at e ⊢
    cases e
    exact q _ H1 s1 .bool
theorem eok_or {t u : TE} {a b : Rh → Option Res} (ha : EOk K t a) (hb : EOk K u b) : EOk K (tOrV t u) (eOrD a b) := fun H0 Z O ρ z σ H Q e c q => by
  obtain ⟨x, e1, e⟩ := bind_some e
  obtain ⟨k, e2, e⟩ := bind_some e
  refine ha H0 Z O ρ x σ H _ e1 c fun v H1 s1 v1 => ⟨k, v1.tob e2, ?_⟩
  by_cases hx : k = true
  · rw [if_pos hx] at e ⊢
    cases e
    exact q _ H1 s1 .bool
  · rw [if_neg hx] at e ⊢
    exact hb H0 Z O ρ z σ H1 _ e (c.mono s1) fun u H2 s2 v2 => q u H2 (s1.trans s2) (v2.anti s1)
theorem eok_not {t : TE} {a : Rh → Option Res} (ha : EOk K t a) : EOk K (tNotV t) (eNotD a) := fun H0 Z O ρ z σ H Q e c q => by
  obtain ⟨x, e1, e⟩ := bind_some e
  obtain ⟨k, e2, e⟩ := bind_some e
  cases e
  exact ha H0 Z O ρ x σ H _ e1 c fun v H1 s1 v1 => ⟨k, v1.tob e2, q _ H1 s1 .bool⟩
@[simp] def eIfD (t : Rh → Option Bool) (a b : Rh → Option Res) : Rh → Option Res := fun ρ => (t ρ).bind fun k => if k = true then a ρ else b ρ
theorem eok_if {t : TT} {u w : TE} {k : Rh → Option Bool} {a b : Rh → Option Res} (ht : TOk K t k) (ha : EOk K u a) (hb : EOk K w b) : EOk K (tIf t u w) (eIfD k a b) := fun H0 Z O ρ z σ H Q e c q => by
  obtain ⟨x, e1, e⟩ := bind_some e
  refine ht H0 Z O ρ x σ H _ e1 c fun H1 s1 => ?_
  by_cases hx : x = true
  · rw [if_pos hx] at e ⊢
    exact ha H0 Z O ρ z σ H1 _ e (c.mono s1) fun u H2 s2 v2 => q u H2 (s1.trans s2) (v2.anti s1)
  · rw [if_neg hx] at e ⊢
    exact hb H0 Z O ρ z σ H1 _ e (c.mono s1) fun u H2 s2 v2 => q u H2 (s1.trans s2) (v2.anti s1)
end
end F3
set_option maxRecDepth 100000
namespace F3
open PySem PySem.Spec PyProof.Rows L2
section
variable {K : PySem.W.Frag}
def Res.toi : Res → Option Int
  | .sh (.int i) => some i
  | _ => none
def Res.tos : Res → Option Str
  | .sh (.str x) => some x
  | _ => none
section
variable {H0 Hs H : Hp} {O : List Addr} {r : Res} {v : V}
theorem Vl.toi {i : Int} (h : Vl K H0 Hs O H r v) (e : r.toi = some i) : v = .int i := by
  cases r with
  | sh d => cases d <;> cases e; exact h.to_int
  | fr ds => cases e
  | bo ds => cases e
theorem Vl.tos {i : Str} (h : Vl K H0 Hs O H r v) (e : r.tos = some i) : v = .str i := by
  cases r with
  | sh d => cases d <;> cases e; exact h.to_str
  | fr ds => cases e
  | bo ds => cases e
end
theorem r2_or {r r' : R2} {g g' h : Res → Res → Option Res} (a : R2ok K r g) (b : R2ok K r' g') (e : ∀ x y z, h x y = some z → g x y = some z ∨ g' x y = some z) :
    R2ok K (fun x y H Q => r x y H Q ∨ r' x y H Q) h := fun H0 Z O Hs H x y p q z Q e1 bs sm vx vy k => by
  rcases e p q z e1 with e2 | e2
  · exact .inl (a H0 Z O Hs H x y p q z Q e2 bs sm vx vy k)
  · exact .inr (b H0 Z O Hs H x y p q z Q e2 bs sm vx vy k)

/-! ### ints -/
def iiR (f : Int → Int → Option PyData) (a b : Res) : Option Res := match a.toi, b.toi with
  | some i, some j => match f i j with
    | some d => some (.sh d)
    | none => none
  | _, _ => none
theorem iiR_some {f : Int → Int → Option PyData} {a b c : Res} (h : iiR f a b = some c) : ∃ i j d, a.toi = some i ∧ b.toi = some j ∧ f i j = some d ∧ c = .sh d := by
  unfold iiR at h
  cases h1 : a.toi with
  | none => rw [h1] at h; cases h
  | some i =>
    cases h2 : b.toi with
    | none => rw [h1, h2] at h; cases h
    | some j =>
      rw [h1, h2] at h
      cases h3 : f i j with
      | none => simp only [h3] at h; cases h
      | some d => simp only [h3] at h; cases h; exact ⟨i, j, d, rfl, rfl, h3, rfl⟩
/-- the value of simple data -/
def vOf : PyData → Option V
  | .none => some .non
  | .bool b => some (.bl b)
  | .int i => some (.int i)
  | .str x => some (.str x)
  | _ => none
theorem vOf_dp {d : PyData} {v : V} (h : vOf d = some v) (H : Hp) : Dp K H v d := by
  cases d <;> cases h
  · exact .non
  · exact .bl _
  · exact .int _
  · exact .str _
theorem r2_ii {C : Int → Int → Prop} {g : Int → Int → V} {f : Int → Int → Option PyData} (h : ∀ i j d, f i j = some d → C i j ∧ vOf d = some (g i j)) : R2ok K (rI C g) (iiR f) :=
  fun H0 Z O Hs H x y p q z Q e0 bs sm vx vy k => by
    obtain ⟨i, j, d, e1, e2, e3, rfl⟩ := iiR_some e0
    obtain ⟨hc, hv⟩ := h i j d e3
    exact ⟨i, j, vx.toi e1, vy.toi e2, hc, k _ H (Same.refl H) (vOf_dp hv _)⟩
theorem r2_ii0 {g : Int → Int → V} {f : Int → Int → Option PyData} (h : ∀ i j d, f i j = some d → vOf d = some (g i j)) : R2ok K (rI0 g) (iiR f) :=
  fun H0 Z O Hs H x y p q z Q e0 bs sm vx vy k => by
    obtain ⟨i, j, d, e1, e2, e3, rfl⟩ := iiR_some e0
    exact ⟨i, j, vx.toi e1, vy.toi e2, k _ H (Same.refl H) (vOf_dp (h i j d e3) _)⟩
abbrev addI : Res → Res → Option Res := iiR fun i j => some (.int (i + j))
abbrev subR : Res → Res → Option Res := iiR fun i j => some (.int (i - j))
theorem r2_addI : R2ok K (rI0 fun i j => .int (i + j)) addI := r2_ii0 fun i j d e => by cases e; rfl
theorem r2_sub : R2ok K (rI0 fun i j => .int (i - j)) subR := r2_ii0 fun i j d e => by cases e; rfl
/-- the sizes of two factors -/
def mulOk (i j : Int) : Prop := i.natAbs.log2 + j.natAbs.log2 < 1000000
instance (i j : Int) : Decidable (mulOk i j) := inferInstanceAs (Decidable (_ < _))
abbrev mulI : Res → Res → Option Res := iiR fun i j => if mulOk i j then some (.int (i * j)) else none
theorem r2_mulI : R2ok K (rI CMulW fun i j => .int (i * j)) mulI := r2_ii fun i j d e => by
  obtain ⟨h, rfl⟩ := ite_some e
  exact ⟨h, rfl⟩
def divOk (j : Int) : Prop := 0 < j ∧ j.natAbs.log2 < 9000
instance (j : Int) : Decidable (divOk j) := inferInstanceAs (Decidable (_ ∧ _))
def fdivR : Res → Res → Option Res := iiR fun i j => if divOk j then some (.int (i / j)) else if j < 0 ∧ j.natAbs < 1073741824 then some (.int (i.fdiv j)) else none
def rFdiv : R2 := fun x y H Q => rI CDivW (fun i j => .int (i / j)) x y H Q ∨ rI CDivN (fun i j => .int (i.fdiv j)) x y H Q
theorem op_fdivA {X : Cx} : OpR X (binaryOp .FloorDiv) rFdiv := op_fdivW.or op_fdivN
theorem r2_fdiv : R2ok K rFdiv fdivR := by
  refine r2_or (g := iiR fun i j => if divOk j then some (.int (i / j)) else none) (g' := iiR fun i j => if j < 0 ∧ j.natAbs < 1073741824 then some (.int (i.fdiv j)) else none) ?_ ?_ ?_
  · exact r2_ii fun i j d e => by
      obtain ⟨h, rfl⟩ := ite_some e
      exact ⟨h, rfl⟩
  · exact r2_ii fun i j d e => by
      obtain ⟨h, rfl⟩ := ite_some e
      exact ⟨⟨fun z => by omega, h.2⟩, rfl⟩
  · intro x y z e
    obtain ⟨i, j, d, e1, e2, e3, rfl⟩ := iiR_some e
    unfold iiR
    rw [e1, e2]
    by_cases hd : divOk j
    · rw [if_pos hd] at e3
      left
      simp only [if_pos hd, e3]
    · rw [if_neg hd] at e3
      right
      simp only [e3]
def modR : Res → Res → Option Res := iiR fun i j => if 0 < j then some (.int (i % j)) else if j < 0 then some (.int (i.fmod j)) else none
theorem r2_mod : R2ok K (rI (fun _ j => j ≠ 0) fun i j => .int (i.fmod j)) modR := r2_ii fun i j d e => by
  by_cases h : 0 < j
  · rw [if_pos h] at e
    cases e
    refine ⟨fun z => by omega, ?_⟩
    show some (V.int (i % j)) = some (V.int (i.fmod j))
    rw [Int.fmod_eq_emod_of_nonneg _ (by omega)]
  · rw [if_neg h] at e
    obtain ⟨h2, rfl⟩ := ite_some e
    exact ⟨fun z => by omega, rfl⟩
def powR : Res → Res → Option Res := iiR fun i j => if 0 ≤ j ∧ j ≤ 1000000 ∧ i.natAbs < 2 ^ 64 then some (.int (i ^ j.toNat)) else none
theorem r2_pow : R2ok K (rI CPow fun i j => .int (i ^ j.toNat)) powR := r2_ii fun i j d e => by
  obtain ⟨h, rfl⟩ := ite_some e
  exact ⟨h, rfl⟩
abbrev ltR : Res → Res → Option Res := iiR fun i j => some (.bool (decide (i < j)))
abbrev leR : Res → Res → Option Res := iiR fun i j => some (.bool (decide (i ≤ j)))
abbrev gtR : Res → Res → Option Res := iiR fun i j => some (.bool (decide (j < i)))
abbrev geR : Res → Res → Option Res := iiR fun i j => some (.bool (decide (j ≤ i)))
theorem r2_lt : R2ok K (rI0 fun i j => .bl (decide (i < j))) ltR := r2_ii0 fun i j d e => by cases e; rfl
theorem r2_le : R2ok K (rI0 fun i j => .bl (decide (i ≤ j))) leR := r2_ii0 fun i j d e => by cases e; rfl
theorem r2_gt : R2ok K (rI0 fun i j => .bl (decide (j < i))) gtR := r2_ii0 fun i j d e => by cases e; rfl
theorem r2_ge : R2ok K (rI0 fun i j => .bl (decide (j ≤ i))) geR := r2_ii0 fun i j d e => by cases e; rfl
def negR (a : Res) : Option Res := match a.toi with
  | some i => some (.sh (.int (-i)))
  | none => none
theorem r1_neg : R1ok K (rU fun i => .int (-i)) negR := fun H0 Z O Hs H x a c Q e bs sm vx k => by
  unfold negR at e
  cases h : a.toi with
  | none => rw [h] at e; cases e
  | some i =>
    rw [h] at e
    cases e
    exact ⟨i, vx.toi h, k _ H (Same.refl H) .int⟩

/-! ### == and != of data, in, is -/
/-- == of data, where the model has an answer -/
def eqD (d e : PyData) : Option Bool := match d, e with
  | .str x, .str y => some (decide (x = y))
  | d, e => if SeqAt.shaped d = true ∧ SeqAt.shaped e = true then some (PyData.eqv d e) else none
def eqR (a b : Res) : Option Res := match eqD a.dat b.dat with
  | some k => some (.sh (.bool k))
  | none => none
def neR (a b : Res) : Option Res := match eqD a.dat b.dat with
  | some k => some (.sh (.bool (!k)))
  | none => none
def rEqA (K : PySem.W.Frag) : R2 := fun x y H Q => rEqD K x y H Q ∨ rEq x y H Q
def rNeA (K : PySem.W.Frag) : R2 := fun x y H Q => rNeD K x y H Q ∨ rNe x y H Q
theorem op_eqA {X : Cx} (hu : X.A.units + 64 < cLine) : OpR X (compareOp .Eq) (rEqA X.K) := (op_eqD hu).or op_eq
theorem op_neA {X : Cx} (hu : X.A.units + 64 < cLine) : OpR X (compareOp .NotEq) (rNeA X.K) := (op_neD hu).or op_ne
theorem eqD_ok {H : Hp} {x y : V} {d e : PyData} {k : Bool} (hx : Dp K H x d) (hy : Dp K H y e) (h : eqD d e = some k) :
    (SeqAt.shaped d = true ∧ SeqAt.shaped e = true ∧ k = PyData.eqv d e) ∨ (scal x y = true ∧ k = decide (x = y)) := by
  unfold eqD at h
  split at h
  · cases h
    cases hx
    cases hy
    refine .inr ⟨rfl, ?_⟩
    rename_i a b
    by_cases hab : a = b
    · subst hab; simp
    · rw [decide_eq_false hab, decide_eq_false fun z => hab (V.str.inj z)]
  · obtain ⟨hs, rfl⟩ := ite_some h
    exact .inl ⟨hs.1, hs.2, rfl⟩
theorem r2_eq : R2ok K (rEqA K) eqR := fun H0 Z O Hs H x y p q z Q e bs sm vx vy k => by
  unfold eqR at e
  cases h : eqD p.dat q.dat with
  | none => rw [h] at e; cases e
  | some b =>
    rw [h] at e
    cases e
    rcases eqD_ok vx.full vy.full h with ⟨h1, h2, rfl⟩ | ⟨h1, rfl⟩
    · exact .inl ⟨_, _, vx.full, vy.full, h1, h2, k _ H (Same.refl H) .bool⟩
    · exact .inr ⟨h1, k _ H (Same.refl H) .bool⟩
theorem r2_ne : R2ok K (rNeA K) neR := fun H0 Z O Hs H x y p q z Q e bs sm vx vy k => by
  unfold neR at e
  cases h : eqD p.dat q.dat with
  | none => rw [h] at e; cases e
  | some b =>
    rw [h] at e
    cases e
    rcases eqD_ok vx.full vy.full h with ⟨h1, h2, rfl⟩ | ⟨h1, rfl⟩
    · exact .inl ⟨_, _, vx.full, vy.full, h1, h2, k _ H (Same.refl H) .bool⟩
    · exact .inr ⟨h1, k _ H (Same.refl H) .bool⟩
/-- x in a list or a tuple -/
def rInA (K : PySem.W.Frag) (neg : Bool) : R2 := fun x y H Q => ∃ d ds, Dp K H x d ∧ (Dp K H y (.list ds) ∨ Dp K H y (.tuple ds)) ∧ SeqAt.shaped d = true ∧ SeqAt.shaped (.list ds) = true ∧
  Q (.bl (if neg then !ds.any (fun z => PyData.eqv z d) else ds.any (fun z => PyData.eqv z d))) H
section
variable {X : Cx}
theorem room_in {d : PyData} {n : Nat} {A : Around} (sd : SeqAt.shaped d = true) (hu : A.units + 65 < cLine) : A.units + 1 + min n d.depth < cLine := by
  have h1 := SeqAt.depth_of_shaped sd
  have h2 := Nat.min_le_right n d.depth
  omega
theorem op_inA (hu : X.A.units + 65 < cLine) : OpR X (compareOp .In) (rInA X.K false) := fun pins s σ H x y v u Q I rx ry h => by
  obtain ⟨d, ds, hd, he, sd, se, q⟩ := h
  obtain ⟨as, r1⟩ := Dp.reads I d x v hd rx
  have q' : EP X pins σ Q (.bool (ds.any fun z => PyData.eqv z d)) s := ⟨.bl _, H, I, rfl, q⟩
  rcases he with he | he
  · obtain ⟨bs, r2⟩ := Dp.reads I _ y u he ry
    exact SeqAt.in_list_reads r2 r1 (SeqAt.canLay_of_shaped se) (SeqAt.canLay_of_shaped sd) (room_in sd hu) q'
  · obtain ⟨bs, r2⟩ := Dp.reads I _ y u he ry
    exact SeqAt.in_tuple_reads r2 r1 (SeqAt.canLay_of_shaped se) (SeqAt.canLay_of_shaped sd) (room_in sd hu) q'
theorem op_notInA (hu : X.A.units + 65 < cLine) : OpR X (compareOp .NotIn) (rInA X.K true) := fun pins s σ H x y v u Q I rx ry h => by
  obtain ⟨d, ds, hd, he, sd, se, q⟩ := h
  obtain ⟨as, r1⟩ := Dp.reads I d x v hd rx
  have q' : EP X pins σ Q (.bool (!ds.any fun z => PyData.eqv z d)) s := ⟨.bl _, H, I, rfl, q⟩
  rcases he with he | he
  · obtain ⟨bs, r2⟩ := Dp.reads I _ y u he ry
    exact SeqAt.notIn_list_reads r2 r1 (SeqAt.canLay_of_shaped se) (SeqAt.canLay_of_shaped sd) (room_in sd hu) q'
  · obtain ⟨bs, r2⟩ := Dp.reads I _ y u he ry
    exact SeqAt.notIn_tuple_reads r2 r1 (SeqAt.canLay_of_shaped se) (SeqAt.canLay_of_shaped sd) (room_in sd hu) q'
/-- a is b, both bools; a is None -/
theorem op_isB : OpR X (compareOp .Is) (fun x y H Q => ∃ a b, x = .bl a ∧ y = .bl b ∧ Q (.bl (a == b)) H) := fun pins s σ H x y v u Q I rx ry h => by
  obtain ⟨a, b, rfl, rfl, q⟩ := h
  cases rx
  cases ry
  exact is_bool ⟨.bl _, H, I, rfl, q⟩
theorem op_isnotB : OpR X (compareOp .IsNot) (fun x y H Q => ∃ a b, x = .bl a ∧ y = .bl b ∧ Q (.bl (a != b)) H) := fun pins s σ H x y v u Q I rx ry h => by
  obtain ⟨a, b, rfl, rfl, q⟩ := h
  cases rx
  cases ry
  exact isnot_bool ⟨.bl _, H, I, rfl, q⟩
end
def Res.seq : Res → Option (List PyData)
  | .sh (.tuple ds) => some ds
  | r => r.lst
def inR (neg : Bool) (a b : Res) : Option Res := match b.seq with
  | some ds => if SeqAt.shaped a.dat = true ∧ SeqAt.shaped (.list ds) = true then some (.sh (.bool (if neg then !ds.any (fun z => PyData.eqv z a.dat) else ds.any (fun z => PyData.eqv z a.dat)))) else none
  | none => none
theorem seq_dat {r : Res} {ds : List PyData} (h : r.seq = some ds) : r.dat = .list ds ∨ r.dat = .tuple ds := by
  cases r with
  | sh d => cases d <;> simp only [Res.seq, Res.lst] at h <;> cases h <;> first | exact .inl rfl | exact .inr rfl
  | fr xs => cases h; exact .inl rfl
  | bo xs => cases h; exact .inl rfl
theorem r2_in (neg : Bool) : R2ok K (rInA K neg) (inR neg) := fun H0 Z O Hs H x y p q z Q e bs sm vx vy k => by
  unfold inR at e
  cases h : q.seq with
  | none => rw [h] at e; cases e
  | some ds =>
    rw [h] at e
    obtain ⟨h1, rfl⟩ := ite_some e
    refine ⟨p.dat, ds, vx.full, ?_, h1.1, h1.2, k _ H (Same.refl H) .bool⟩
    have f := vy.full
    rcases seq_dat h with z | z
    · rw [z] at f; exact .inl f
    · rw [z] at f; exact .inr f
def rIs : R2 := fun x y H Q => (y = .non ∧ Q (.bl (decide (x = .non))) H) ∨ ∃ a b, x = .bl a ∧ y = .bl b ∧ Q (.bl (a == b)) H
def rIsNot : R2 := fun x y H Q => (y = .non ∧ Q (.bl (!decide (x = .non))) H) ∨ ∃ a b, x = .bl a ∧ y = .bl b ∧ Q (.bl (a != b)) H
theorem op_isA {X : Cx} : OpR X (compareOp .Is) rIs := op_isN.or op_isB
theorem op_isnotA {X : Cx} : OpR X (compareOp .IsNot) rIsNot := op_notN.or op_isnotB
def Res.isNone : Res → Bool
  | .sh .none => true
  | _ => false
theorem Vl.isNone {H0 Hs H : Hp} {O : List Addr} {r : Res} {v : V} (h : Vl K H0 Hs O H r v) : decide (v = .non) = r.isNone := by
  cases r with
  | sh d =>
    have h : Dp K (off H O) v d := h
    cases h <;> rfl
  | fr ds =>
    obtain ⟨p, vs, rfl, _⟩ := h
    rfl
  | bo ds =>
    obtain ⟨p, vs, rfl, _⟩ := h
    rfl
def isR (neg : Bool) (a b : Res) : Option Res := match b with
  | .sh .none => some (.sh (.bool (neg != a.isNone)))
  | .sh (.bool y) => match a with
    | .sh (.bool x) => some (.sh (.bool (neg != (x == y))))
    | _ => none
  | _ => none
theorem r2_is : R2ok K rIs (isR false) := fun H0 Z O Hs H x y p q z Q e bs sm vx vy k => by
  unfold isR at e
  split at e
  · cases e
    refine .inl ⟨vy.to_none, ?_⟩
    rw [vx.isNone]
    exact k _ H (Same.refl H) (by cases p.isNone <;> exact .bool)
  · split at e
    · cases e
      exact .inr ⟨_, _, vx.to_bool, vy.to_bool, k _ H (Same.refl H) (by simp only [Bool.false_bne]; exact .bool)⟩
    · cases e
  · cases e
theorem r2_isnot : R2ok K rIsNot (isR true) := fun H0 Z O Hs H x y p q z Q e bs sm vx vy k => by
  unfold isR at e
  split at e
  · cases e
    refine .inl ⟨vy.to_none, ?_⟩
    rw [vx.isNone]
    exact k _ H (Same.refl H) (by cases p.isNone <;> exact .bool)
  · split at e
    · cases e
      refine .inr ⟨_, _, vx.to_bool, vy.to_bool, k _ H (Same.refl H) ?_⟩
      simp only [Bool.true_bne]
      exact .bool
    · cases e
  · cases e
end
end F3
set_option maxRecDepth 100000
namespace F3
open PySem PySem.Spec PyProof.Rows L2

/-! ### + -/
def rCatLL (K : PySem.W.Frag) : R2 := fun x y H Q => ∃ l b xs zs, x = .ref l ∧ y = .ref b ∧ SqL K H l xs ∧ SqL K H b zs ∧ xs.length + zs.length ≤ sizeLine ∧ ∀ p, H p = none → Q (.ref p) (upd H p (.lst (xs ++ zs)))
theorem op_catLL {X : Cx} : OpR X (binaryOp .Add) (rCatLL X.K) := fun pins s σ H x y v u Q I rx ry h => by
  obtain ⟨l, b, xs, zs, rfl, rfl, hl, hb, hz, q⟩ := h
  cases rx
  cases ry
  obtain ⟨its, r, pl, z1⟩ := I.list hl
  obtain ⟨its2, r2, pl2, z2⟩ := I.list hb
  obtain ⟨⟨cls, dd, dat, sl⟩, n, ho, hc, hdd, hd⟩ := pl
  obtain ⟨⟨cls2, dd2, dat2, sl2⟩, n2, ho2, hc2, hdd2, hd2⟩ := pl2
  simp only at hc hd hc2 hd2
  subst hc hd hc2 hd2
  have l1 := r.length
  have l2 := r2.length
  refine concat_meets ⟨_, ho, rfl⟩ ⟨_, ho2, rfl⟩ noFill_list_add seq_list_add PySem.F.slot_list_add PySem.F.entry_list_add
    (PySem.F.args_list_add_2 _ _) (list_addW l b its.toArray its2.toArray n n2 dd dd2 sl sl2 ?_) ⟨ho, ho2, ?_⟩
  · rw [List.size_toArray, List.size_toArray, ← l1, ← l2]
    exact hz
  · have ea : its.toArray ++ its2.toArray = (its ++ its2).toArray := by simp
    rw [ea]
    exact ⟨.ref _, _, I.lnew (t' := s.toks) (r.append r2) (by rw [List.length_append]; exact hz), rfl, q _ I.fresh⟩
def rAdd4 (K : PySem.W.Frag) : R2 := fun x y H Q => rI0 (fun i j => .int (i + j)) x y H Q ∨ rCatA K x y H Q ∨ rCatLL K x y H Q ∨
  ∃ i j, x = .str i ∧ y = .str j ∧ i.length + j.length ≤ sizeLine ∧ Q (.str (i ++ j)) H
theorem op_add4 {X : Cx} : OpR X (binaryOp .Add) (rAdd4 X.K) := op_add.or (op_catA.or (op_catLL.or op_add_str))
def addR (a b : Res) : Option Res := match a, b with
  | .sh (.int i), .sh (.int j) => some (.sh (.int (i + j)))
  | .sh (.str x), .sh (.str y) => if x.length + y.length ≤ LIM then some (.sh (.str (x ++ y))) else none
  | .sh (.tuple x), .sh (.tuple y) => if x.length + y.length ≤ LIM then some (.sh (.tuple (x ++ y))) else none
  | a, b => match a.lst, b.lst with
    | some x, some y => if x.length + y.length ≤ LIM then some (.fr (x ++ y)) else none
    | _, _ => none
section
variable {K : PySem.W.Frag}
theorem addR_lst {a b c : Res} (h : (match a.lst, b.lst with
    | some x, some y => if x.length + y.length ≤ LIM then some (Res.fr (x ++ y)) else none
    | _, _ => none) = some c) : ∃ x y, a.lst = some x ∧ b.lst = some y ∧ x.length + y.length ≤ LIM ∧ c = .fr (x ++ y) := by
  cases h1 : a.lst with
  | none => rw [h1] at h; cases h
  | some x =>
    cases h2 : b.lst with
    | none => rw [h1, h2] at h; cases h
    | some y =>
      rw [h1, h2] at h
      obtain ⟨hl, rfl⟩ := ite_some h
      exact ⟨x, y, rfl, rfl, hl, rfl⟩
theorem r2_add : R2ok K (rAdd4 K) addR := fun H0 Z O Hs H x y p q z Q e bs sm vx vy k => by
  unfold addR at e
  split at e
  · cases e
    exact .inl ⟨_, _, vx.to_int, vy.to_int, k _ H (Same.refl H) .int⟩
  · obtain ⟨hl, rfl⟩ := ite_some e
    exact .inr (.inr (.inr ⟨_, _, vx.to_str, vy.to_str, lim_line hl, k _ H (Same.refl H) .str⟩))
  · rename_i xs ys
    obtain ⟨hl, rfl⟩ := ite_some e
    obtain ⟨a, us, rfl, ha, da⟩ := vx.tup rfl
    obtain ⟨b, ws, rfl, hb, db⟩ := vy.tup rfl
    have l1 := dpa_len da
    have l2 := dpa_len db
    refine .inr (.inl ⟨a, b, us, ws, rfl, rfl, Same.tup off_le ha, Same.tup off_le hb, by rw [l1, l2]; exact lim_line hl, fun z => ?_, fun z z2 => ?_, fun _ _ p hp => ?_⟩)
    · subst z
      cases da
      exact k _ H (Same.refl H) vy
    · subst z2
      cases db
      rw [List.append_nil] at k
      exact k _ H (Same.refl H) vx
    · exact k _ _ (same_new hp) (Vl.newT bs hp (dpa_append da db))
  · obtain ⟨xs, ys, e1, e2, hl, rfl⟩ := addR_lst e
    obtain ⟨a, us, rfl, ha, da⟩ := vx.lst e1
    obtain ⟨b, ws, rfl, hb, db⟩ := vy.lst e2
    refine .inr (.inr (.inl ⟨a, b, us, ws, rfl, rfl, ha, hb, by rw [dpa_len da, dpa_len db]; exact lim_line hl, fun p hp => ?_⟩))
    exact k _ _ (same_new hp) (Vl.newL bs sm hp (dpa_append da db))

/-! ### subscripts -/
def ixR (a b : Res) : Option Res := match b.toi with
  | some i => match a with
    | .sh (.str x) => if x.length ≤ LIM then match atI x.cps.toList i with
      | some c => some (.sh (.str ⟨#[c]⟩))
      | none => none
      else none
    | a => match a.seq with
      | some ds => match atI ds i with
        | some d => some (.sh d)
        | none => none
      | none => none
  | none => none
theorem atI_dpa {H : Hp} {ds : List PyData} {vs : List V} {i : Int} {d : PyData} (h : DpAll K H vs ds) (e : atI ds i = some d) : ∃ v, atI vs i = some v ∧ Dp K H v d := by
  unfold atI at e ⊢
  rw [dpa_len h]
  cases e1 : ixN ds.length i with
  | none => rw [e1] at e; cases e
  | some j =>
    rw [e1] at e
    exact dpa_get h e
/-- the value of a sequence -/
theorem Vl.seq {H0 Hs H : Hp} {O : List Addr} {r : Res} {v : V} {ds : List PyData} (h : Vl K H0 Hs O H r v) (e : r.seq = some ds) :
    ∃ p vs, v = .ref p ∧ (SqL K H p vs ∨ SqT K H p vs) ∧ DpAll K (off H O) vs ds := by
  cases r with
  | sh d =>
    cases d <;> simp only [Res.seq, Res.lst] at e <;> cases e
    · obtain ⟨p, vs, h1, h2, h3⟩ := h.lst rfl
      exact ⟨p, vs, h1, .inl h2, h3⟩
    · obtain ⟨p, vs, h1, h2, h3⟩ := h.tup rfl
      exact ⟨p, vs, h1, .inr (Same.tup off_le h2), h3⟩
  | fr xs =>
    cases e
    obtain ⟨p, vs, h1, h2, h3⟩ := h.lst rfl
    exact ⟨p, vs, h1, .inl h2, h3⟩
  | bo xs =>
    cases e
    obtain ⟨p, vs, h1, h2, h3⟩ := h.lst rfl
    exact ⟨p, vs, h1, .inl h2, h3⟩
theorem ixSeq_ok {H0 Hs H : Hp} {O : List Addr} {a : Res} {x y : V} {i : Int} {c : Res} {Q : VK} (hy : y = .int i) (vx : Vl K H0 Hs O H a x)
    (e : (match a.seq with
      | some ds => match atI ds i with
        | some d => some (Res.sh d)
        | none => none
      | none => none) = some c) (k : ∀ v H', Same H H' → Vl K H0 Hs O H' c v → Q v H') : rIx K x y H Q := by
  cases h1 : a.seq with
  | none => rw [h1] at e; cases e
  | some ds =>
    cases h2 : atI ds i with
    | none => rw [h1] at e; simp only [h2] at e; cases e
    | some d =>
      rw [h1] at e
      simp only [h2] at e
      cases e
      obtain ⟨p, vs, rfl, hs, hd⟩ := vx.seq h1
      obtain ⟨v, e1, e2⟩ := atI_dpa hd h2
      have kk := k v H (Same.refl H) e2
      rcases hs with hs | hs
      · exact .inl ⟨p, vs, i, v, rfl, hy, hs, e1, kk⟩
      · exact .inr (.inl ⟨p, vs, i, v, rfl, hy, hs, e1, kk⟩)
theorem r2_ix : R2ok K (rIx K) ixR := fun H0 Z O Hs H x y p q z Q e bs sm vx vy k => by
  unfold ixR at e
  cases h : q.toi with
  | none => rw [h] at e; cases e
  | some i =>
    rw [h] at e
    have hy := vy.toi h
    simp only at e
    split at e
    · by_cases hl : (‹Str›).length ≤ LIM
      · rw [if_pos hl] at e
        split at e
        · rename_i h3
          cases e
          exact .inr (.inr ⟨_, _, _, vx.to_str, hy, lim_line hl, h3, k _ H (Same.refl H) .str⟩)
        · cases e
      · rw [if_neg hl] at e; cases e
    · exact ixSeq_ok hy vx e k

/-! ### slices -/
abbrev Po := Rh → Option (Option Int)
def OOk (K : PySem.W.Frag) (t : TO) (f : Po) : Prop := ∀ (H0 : Hp) (Z O : List Addr) (ρ : Rh) (r : Option Int) (σ : L2.St) (H : Hp) (Q : Option Int → Hp → Prop),
  f ρ = some r → Cor K H0 Z O ρ σ H → (∀ H', Same H H' → Q r H') → t σ H Q
@[simp] def oNo : Po := fun _ => some none
@[simp] def oIs (a : Rh → Option Res) : Po := fun ρ => (a ρ).bind fun r => match r.toi with
  | some i => some (some i)
  | none => none
theorem ook_no : OOk K tNoPart oNo := fun H0 Z O ρ r σ H Q e c q => by cases e; exact q H (Same.refl H)
theorem ook_is {t : TE} {a : Rh → Option Res} (ha : EOk K t a) : OOk K (tPart t) (oIs a) := fun H0 Z O ρ r σ H Q e c q => by
  obtain ⟨x, e1, e⟩ := bind_some e
  cases h : x.toi with
  | none => rw [h] at e; cases e
  | some i =>
    rw [h] at e
    cases e
    exact ha H0 Z O ρ x σ H _ e1 c fun v H1 s1 v1 => ⟨i, v1.toi h, q H1 s1⟩
/-- the items of xs[lo:hi] -/
def cutD (xs : List PyData) (lo hi : Option Int) : List PyData := (xs.drop (HT.sIx xs.length 0 lo)).take (HT.sIx xs.length xs.length hi - HT.sIx xs.length 0 lo)
theorem cut_dpa {H : Hp} {ds : List PyData} {vs : List V} (lo hi : Option Int) (h : DpAll K H vs ds) : DpAll K H (cutV vs lo hi) (cutD ds lo hi) := by
  unfold cutV cutD
  rw [dpa_len h]
  exact dpa_take _ (dpa_drop _ h)
def slR (a : Res) (lo hi : Option Int) : Option Res := match a.tup with
  | some ds => some (.sh (.tuple (cutD ds lo hi)))
  | none => match a.lst with
    | some ds => some (.fr (cutD ds lo hi))
    | none => none
def rSl2 (K : PySem.W.Frag) : V → Option Int → Option Int → Hp → VK → Prop := fun x lo hi H Q => rSlA K x lo hi H Q ∨ rSlL K x lo hi H Q
theorem sl_2 {X : Cx} : SlR X (rSl2 X.K) := sl_tupA.or sl_list
theorem sIx_full {n : Nat} {lo hi : Option Int} {xs : List PyData} (hn : n = xs.length) (h : HT.sIx n 0 lo = 0 ∧ HT.sIx n n hi = n) : cutD xs lo hi = xs := by
  subst hn
  unfold cutD
  rw [h.1, h.2, List.drop_zero, Nat.sub_zero, List.take_length]
@[simp] def eSl (a : Rh → Option Res) (lo hi : Po) : Rh → Option Res := fun ρ => (a ρ).bind fun x => (lo ρ).bind fun l => (hi ρ).bind fun h => slR x l h
theorem eok_sl {ta : TE} {tl th : TO} {a : Rh → Option Res} {lo hi : Po} (ha : EOk K ta a) (hl : OOk K tl lo) (hh : OOk K th hi) : EOk K (tSl (rSl2 K) ta tl th) (eSl a lo hi) :=
  fun H0 Z O ρ z σ H Q e c q => by
    obtain ⟨x, e1, e⟩ := bind_some e
    obtain ⟨l, e2, e⟩ := bind_some e
    obtain ⟨h, e3, e⟩ := bind_some e
    refine ha H0 Z O ρ x σ H _ e1 c fun v H1 s1 v1 => hl H0 Z O ρ l σ H1 _ e2 (c.mono s1) fun H2 s2 => hh H0 Z O ρ h σ H2 _ e3 (c.mono (s1.trans s2)) fun H3 s3 => ?_
    have s13 := s2.trans s3
    have s03 := s1.trans s13
    have v3 := v1.mono s13
    have b3 := c.bs.mono s03
    unfold slR at e
    cases ht : x.tup with
    | some ds =>
      rw [ht] at e
      cases e
      obtain ⟨p, vs, rfl, hs, hd⟩ := v3.tup ht
      refine .inl ⟨p, vs, rfl, Same.tup off_le hs, fun w => ?_, fun _ u hu => ?_⟩
      · rw [sIx_full (dpa_len hd) w] at q
        exact q _ H3 s03 (Dp.tup hs hd)
      · exact q _ _ (s03.trans (same_new hu)) (Vl.newT b3 hu (cut_dpa l h hd))
    | none =>
      rw [ht] at e
      cases hx : x.lst with
      | none => simp only [hx] at e; cases e
      | some ds =>
        simp only [hx] at e
        cases e
        obtain ⟨p, vs, rfl, hs, hd⟩ := v3.lst hx
        exact .inr ⟨p, vs, rfl, hs, fun u hu => q _ _ (s03.trans (same_new hu)) (Vl.newL b3 s03 hu (cut_dpa l h hd))⟩
/-- with a step: lists -/
def pickD {α : Type} (xs : List α) (lo hi st : Option Int) : List α :=
  (sliceRange (sliceBounds lo hi st xs.length).1 (sliceBounds lo hi st xs.length).2.1 (sliceBounds lo hi st xs.length).2.2).filterMap (xs[·]?)
theorem pick_vals {its : List Value} {vs : List V} (r : Vals vs its) (lo hi st : Option Int) : Vals (pickD vs lo hi st) (slicePick its.toArray lo hi st).toList := by
  unfold slicePick pickD
  rw [List.size_toArray, r.length]
  generalize sliceRange _ _ _ = ks
  simp only []
  induction ks with
  | nil => exact .nil
  | cons k ks ih =>
    rw [List.filterMap_cons, List.filterMap_cons]
    have e : its.toArray[k]? = its[k]? := by simp
    cases h : vs[k]? with
    | none =>
      have h2 := r.none_of h
      rw [e, h2]
      exact ih
    | some x =>
      obtain ⟨u, h2, h3⟩ := r.get h
      rw [e, h2]
      exact .cons h3 ih
theorem pick_dpa {H : Hp} {ds : List PyData} {vs : List V} (lo hi st : Option Int) (h : DpAll K H vs ds) : DpAll K H (pickD vs lo hi st) (pickD ds lo hi st) := by
  unfold pickD
  rw [dpa_len h]
  generalize sliceRange _ _ _ = ks
  induction ks with
  | nil => exact .nil
  | cons k ks ih =>
    rw [List.filterMap_cons, List.filterMap_cons]
    cases e : ds[k]? with
    | none =>
      have h2 : vs[k]? = none := by
        rw [List.getElem?_eq_none_iff] at e ⊢
        rw [dpa_len h]
        exact e
      rw [h2]
      exact ih
    | some d =>
      obtain ⟨v, h2, h3⟩ := dpa_get h e
      rw [h2]
      exact .cons h3 ih
theorem pick_len {α : Type} (xs : List α) (lo hi st : Option Int) (h : st ≠ some 0) : (pickD xs lo hi st).length ≤ xs.length := by
  unfold pickD
  refine Nat.le_trans (List.length_filterMap_le _ _) ?_
  have hp : (sliceBounds lo hi st xs.length).2.2 > 0 → 0 ≤ (sliceBounds lo hi st xs.length).1 ∧ (sliceBounds lo hi st xs.length).2.1 ≤ xs.length := fun hs => by
    have hs' : st.getD 1 > 0 := hs
    unfold sliceBounds
    simp only [hs', if_true]
    cases lo <;> cases hi <;> simp only [] <;> (try split) <;> (try split) <;> omega
  have hm : ¬ (sliceBounds lo hi st xs.length).2.2 > 0 → (sliceBounds lo hi st xs.length).1 ≤ (xs.length : Int) - 1 ∧ -1 ≤ (sliceBounds lo hi st xs.length).2.1 := fun hs => by
    have hs' : ¬ st.getD 1 > 0 := hs
    unfold sliceBounds
    simp only [hs', if_false]
    cases lo <;> cases hi <;> simp only [] <;> (try split) <;> (try split) <;> omega
  refine Nat.le_trans (sliceRange_len_le _ _ _ ?_) ?_
  · show st.getD 1 ≠ 0
    cases st with
    | none => decide
    | some k => exact fun z => h (congrArg some z)
  · split
    · rename_i hs
      have := hp hs
      omega
    · rename_i hs
      have := hm hs
      omega
def rSl3 (K : PySem.W.Frag) (x : V) (lo hi st : Option Int) (H : Hp) (Q : VK) : Prop := ∃ a xs, x = .ref a ∧ SqL K H a xs ∧ st ≠ some 0 ∧ ∀ p, H p = none → Q (.ref p) (upd H p (.lst (pickD xs lo hi st)))
def tSl3 (K : PySem.W.Frag) (te : TE) (tl th ts : TO) : TE := fun σ H Q => te σ H fun x H1 => tl σ H1 fun l H2 => th σ H2 fun u H3 => ts σ H3 fun k H4 => rSl3 K x l u k H4 Q
theorem pe_slice3 {X : Cx} {e st : Expr} {te : TE} {lo hi : Option Expr} {tl th ts : TO} {pos p2 : Pos} (he : PE X e te) (hl : PO X lo tl) (hu : PO X hi th) (hs : PO X (some st) ts) :
    PE X (.Subscript e (.Slice lo hi (some st) p2) pos) (tSl3 X.K te tl th ts) := by
  refine ⟨fun pins s σ H Q I h => Subscript_ (thn (he.run pins s σ H _ I h) fun v s1 ⟨x, H1, I1, r1, q1⟩ => ?_)⟩
  refine wpAny_Slice (thn (hl.run pins s1 σ H1 _ I1 q1) fun vl s2 ⟨l, H2, I2, pl, q2⟩ => thn (hu.run pins s2 σ H2 _ I2 q2) fun vu s3 ⟨u, H3, I3, pu, q3⟩ =>
    thn (hs.run pins s3 σ H3 _ I3 q3) fun vk s4 ⟨k, H4, I4, pk, q4⟩ => ?_)
  have I5 : Inv X pins σ H4 { s4 with heap := s4.heap.push { cls := .type "slice", data := .fields #[vl, vu, vk] } } := I4.kept (t' := s4.toks) fun b ob q => Heap.get?_push_of_some _ q
  obtain ⟨a, xs, rfl, hx, h0, q⟩ := q4
  cases r1
  obtain ⟨its, r, ht, hz⟩ := I5.list hx
  show wpAny (model X.prog X.w) X.A (subscriptTail e (.Slice lo hi (some st) p2) (.ref a) (.ref s4.heap.objs.size)) (EP X pins σ Q) X.xe _
  refine tail_any (ops := [.ref a, .ref s4.heap.objs.size]) ht.isList.typeIs slot_list_getitem.lookup ?_ (by with_unfolding_all rfl)
  refine wpAny_getItem_list_slice ht.isList (Heap.IsSliceOf.new ..) pl pu pk h0 ?_ (by rw [List.size_toArray, ← r.length]; exact hz)
  have hv := pick_vals r l u k
  refine ⟨.ref _, _, I5.laid (t' := s4.toks) (o := .lst (pickD xs l u k)) (fun b ob q => Heap.get?_push_of_some _ q) (Nat.le_refl _) ?_, rfl, q _ (I5.hok.fresh (Nat.le_refl _))⟩
  exact ⟨Nat.le_trans (pick_len xs l u k h0) hz, _, 0, hv, by rw [Array.toArray_toList]; exact Heap.get?_push_size _ rfl⟩
def eSl3 (a : Rh → Option Res) (lo hi st : Po) : Rh → Option Res := fun ρ => (a ρ).bind fun x => (lo ρ).bind fun l => (hi ρ).bind fun h => (st ρ).bind fun k => match x.lst with
  | some ds => if k ≠ some 0 then some (.fr (pickD ds l h k)) else none
  | none => none
theorem eok_sl3 {ta : TE} {tl th ts : TO} {a : Rh → Option Res} {lo hi st : Po} (ha : EOk K ta a) (hl : OOk K tl lo) (hh : OOk K th hi) (hs : OOk K ts st) : EOk K (tSl3 K ta tl th ts) (eSl3 a lo hi st) :=
  fun H0 Z O ρ z σ H Q e c q => by
    obtain ⟨x, e1, e⟩ := bind_some e
    obtain ⟨l, e2, e⟩ := bind_some e
    obtain ⟨h, e3, e⟩ := bind_some e
    obtain ⟨k, e4, e⟩ := bind_some e
    refine ha H0 Z O ρ x σ H _ e1 c fun v H1 s1 v1 => hl H0 Z O ρ l σ H1 _ e2 (c.mono s1) fun H2 s2 => hh H0 Z O ρ h σ H2 _ e3 (c.mono (s1.trans s2)) fun H3 s3 =>
      hs H0 Z O ρ k σ H3 _ e4 (c.mono ((s1.trans s2).trans s3)) fun H4 s4 => ?_
    have s14 := (s2.trans s3).trans s4
    have s04 := s1.trans s14
    cases hx : x.lst with
    | none => simp only [hx] at e; cases e
    | some ds =>
      simp only [hx] at e
      obtain ⟨h0, rfl⟩ := ite_some e
      obtain ⟨p, vs, rfl, hs, hd⟩ := (v1.mono s14).lst hx
      exact ⟨p, vs, rfl, hs, h0, fun u hu => q _ _ (s04.trans (same_new hu)) (Vl.newL (c.bs.mono s04) s04 hu (pick_dpa l h k hd))⟩
end
end F3
set_option maxRecDepth 100000
namespace F3
open PySem PySem.Spec PyProof.Rows L2
section
variable {K : PySem.W.Frag}
/-! ### built-ins of one value -/
def on1 (g : Res → Option Res) : List Res → Option Res
  | [a] => g a
  | _ => none
theorem cr_1 {r : List V → Hp → VK → Prop} {g : Res → Option Res}
    (h : ∀ (H0 : Hp) (Z O : List Addr) (Hs H : Hp) (x : V) (a c : Res) (Q : VK), g a = some c → Bs H0 Z O H → Same Hs H → Vl K H0 Hs O H a x → (∀ v H', Same H H' → Vl K H0 Hs O H' c v → Q v H') → r [x] H Q) :
    CRok K r (on1 g) := fun H0 Z O Hs H xs as c Q e bs sm v k => by
  unfold on1 at e
  split at e
  · cases v with
    | cons v1 vr =>
      cases vr
      exact h H0 Z O Hs H _ _ c Q e bs sm v1 k
  · cases e
theorem seq_len {H : Hp} {O : List Addr} {ds : List PyData} {vs : List V} (h : DpAll K (off H O) vs ds) : vs.length = ds.length := dpa_len h
def lenR (a : Res) : Option Res := match a.tos with
  | some x => if x.length ≤ LIM then some (.sh (.int x.length)) else none
  | none => match a.seq with
    | some ds => some (.sh (.int ds.length))
    | none => none
def rLen (K : PySem.W.Frag) : List V → Hp → VK → Prop := fun xs H Q => (∃ p ys, xs = [.ref p] ∧ (SqL K H p ys ∨ SqT K H p ys) ∧ Q (.int ys.length) H) ∨ ∃ z, xs = [.str z] ∧ z.length ≤ sizeLine ∧ Q (.int z.length) H
theorem call_lenA {X : Cx} : CallR X (.builtin "len") (rLen X.K) := call_len_seq.or call_len_str
theorem cr_len : CRok K (rLen K) (on1 lenR) := cr_1 fun H0 Z O Hs H x a c Q e bs sm v k => by
  unfold lenR at e
  cases h : a.tos with
  | some z =>
    rw [h] at e
    obtain ⟨hl, rfl⟩ := ite_some e
    exact .inr ⟨z, by rw [v.tos h], lim_line hl, k _ H (Same.refl H) .int⟩
  | none =>
    rw [h] at e
    cases h2 : a.seq with
    | none => simp only [h2] at e; cases e
    | some ds =>
      simp only [h2] at e
      cases e
      obtain ⟨p, vs, rfl, hs, hd⟩ := v.seq h2
      refine .inl ⟨p, vs, rfl, hs, k _ H (Same.refl H) ?_⟩
      rw [dpa_len hd]
      exact .int
def absR (a : Res) : Option Res := match a.toi with
  | some i => some (.sh (.int (if i < 0 then -i else i)))
  | none => none
theorem toi_some {a : Res} {α : Type} {f : Int → Option α} {c : α} (h : (match a.toi with | some i => f i | none => none) = some c) : ∃ i, a.toi = some i ∧ f i = some c := by
  cases e : a.toi with
  | none => rw [e] at h; cases h
  | some i => rw [e] at h; exact ⟨i, rfl, h⟩
theorem cr_abs : CRok K (fun xs H Q => ∃ i, xs = [.int i] ∧ Q (.int (if i < 0 then -i else i)) H) (on1 absR) := cr_1 fun H0 Z O Hs H x a c Q e bs sm v k => by
  obtain ⟨i, h1, h2⟩ := toi_some (f := fun i => some (Res.sh (.int (if i < 0 then -i else i)))) e
  cases h2
  exact ⟨i, by rw [v.toi h1], k _ H (Same.refl H) .int⟩
/-- int(x) of an int, a bool -/
def intR (a : Res) : Option Res := match a with
  | .sh (.int i) => some (.sh (.int i))
  | .sh (.bool b) => some (.sh (.int (if b then 1 else 0)))
  | _ => none
theorem cr_int : CRok K (fun xs H Q => (∃ i, xs = [.int i] ∧ Q (.int i) H) ∨ ∃ k, xs = [.bl k] ∧ Q (.int (if k then 1 else 0)) H) (on1 intR) := cr_1 fun H0 Z O Hs H x a c Q e bs sm v k => by
  unfold intR at e
  split at e
  · cases e
    exact .inl ⟨_, by rw [v.to_int], k _ H (Same.refl H) .int⟩
  · cases e
    exact .inr ⟨_, by rw [v.to_bool], k _ H (Same.refl H) .int⟩
  · cases e
/-- str(x) of an int, a text -/
def strR (a : Res) : Option Res := match a with
  | .sh (.int i) => if i.natAbs.log2 < 1920 then some (.sh (.str (toString i))) else none
  | .sh (.str x) => some (.sh (.str x))
  | _ => none
def rStr : List V → Hp → VK → Prop := fun xs H Q => (∃ i, xs = [.int i] ∧ i.natAbs.log2 < 1920 ∧ Q (.str (toString i)) H) ∨ ∃ a, xs = [.str a] ∧ Q (.str a) H
theorem call_strA {X : Cx} : CallR X (.type "str") rStr := call_str_int.or SkE.call_str_str
theorem cr_str : CRok K rStr (on1 strR) := cr_1 fun H0 Z O Hs H x a c Q e bs sm v k => by
  unfold strR at e
  split at e
  · obtain ⟨hl, rfl⟩ := ite_some e
    exact .inl ⟨_, by rw [v.to_int], hl, k _ H (Same.refl H) .str⟩
  · cases e
    exact .inr ⟨_, by rw [v.to_str], k _ H (Same.refl H) .str⟩
  · cases e
/-- list(x), tuple(x) -/
def listR (a : Res) : Option Res := match a.seq with
  | some ds => some (.fr ds)
  | none => none
def tupR (a : Res) : Option Res := match a.seq with
  | some ds => some (.sh (.tuple ds))
  | none => none
theorem cr_list : CRok K (fun xs H Q => ∃ p ys, xs = [.ref p] ∧ (SqL K H p ys ∨ SqT K H p ys) ∧ ∀ l, H l = none → Q (.ref l) (upd H l (.lst ys))) (on1 listR) := cr_1 fun H0 Z O Hs H x a c Q e bs sm v k => by
  unfold listR at e
  cases h2 : a.seq with
  | none => simp only [h2] at e; cases e
  | some ds =>
    simp only [h2] at e
    cases e
    obtain ⟨p, vs, rfl, hs, hd⟩ := v.seq h2
    exact ⟨p, vs, rfl, hs, fun l hl => k _ _ (same_new hl) (Vl.newL bs sm hl hd)⟩
theorem cr_tuple : CRok K (fun xs H Q => ∃ p ys, xs = [.ref p] ∧ ((SqL K H p ys ∧ ∀ l, H l = none → Q (.ref l) (upd H l (.tup ys))) ∨ (SqT K H p ys ∧ Q (.ref p) H))) (on1 tupR) := cr_1 fun H0 Z O Hs H x a c Q e bs sm v k => by
  unfold tupR at e
  cases h2 : a.seq with
  | none => simp only [h2] at e; cases e
  | some ds =>
    simp only [h2] at e
    cases e
    cases ht : a.tup with
    | some es =>
      obtain ⟨p, vs, rfl, hs, hd⟩ := v.tup ht
      have ee : es = ds := by
        cases a with
        | sh d => cases d <;> simp only [Res.tup, Res.seq, Res.lst] at ht h2 <;> cases ht <;> cases h2; rfl
        | fr xs => cases ht
        | bo xs => cases ht
      subst ee
      exact ⟨p, vs, rfl, .inr ⟨Same.tup off_le hs, k _ H (Same.refl H) (Dp.tup hs hd)⟩⟩
    | none =>
      have hl : a.lst = some ds := by
        cases a with
        | sh d => cases d <;> simp only [Res.tup, Res.seq, Res.lst] at ht h2 ⊢ <;> first | (cases ht; done) | exact h2 | cases h2
        | fr xs => exact h2
        | bo xs => exact h2
      obtain ⟨p, vs, rfl, hs, hd⟩ := v.lst hl
      exact ⟨p, vs, rfl, .inl ⟨hs, fun l hl => k _ _ (same_new hl) (Vl.newT bs hl hd)⟩⟩
/-! ### lists of ints -/
def toInts : List PyData → Option (List Int)
  | [] => some []
  | .int i :: r => match toInts r with
    | some is => some (i :: is)
    | none => none
  | _ => none
theorem toInts_eq : ∀ {ds : List PyData} {ns : List Int}, toInts ds = some ns → ds = ns.map .int
  | [], _, h => by cases h; rfl
  | .int i :: r, _, h => by
    unfold toInts at h
    cases e : toInts r with
    | none => rw [e] at h; cases h
    | some is =>
      rw [e] at h
      cases h
      rw [toInts_eq e]
      rfl
  | .none :: _, _, h => by cases h
  | .bool _ :: _, _, h => by cases h
  | .str _ :: _, _, h => by cases h
  | .list _ :: _, _, h => by cases h
  | .tuple _ :: _, _, h => by cases h
  | .dict _ :: _, _, h => by cases h
theorem toInts_map : ∀ ns : List Int, toInts (ns.map .int) = some ns
  | [] => rfl
  | n :: ns => by
    show (match toInts (ns.map .int) with | some is => some (n :: is) | none => none) = _
    rw [toInts_map ns]
def maxL : List Int → Int
  | [] => 0
  | [x] => x
  | x :: y :: r => max x (maxL (y :: r))
def minL : List Int → Int
  | [] => 0
  | [x] => x
  | x :: y :: r => min x (minL (y :: r))
theorem maxL_le : ∀ (ns : List Int) (y : Int), y ∈ ns → y ≤ maxL ns
  | [x], y, h => by rcases List.mem_cons.mp h with rfl | h; exact Int.le_refl _; cases h
  | x :: z :: r, y, h => by
    unfold maxL
    rcases List.mem_cons.mp h with rfl | h
    · omega
    · have := maxL_le (z :: r) y h
      omega
theorem maxL_mem : ∀ (ns : List Int), ns ≠ [] → maxL ns ∈ ns
  | [], h => absurd rfl h
  | [x], _ => List.mem_cons_self
  | x :: z :: r, _ => by
    have := maxL_mem (z :: r) (by simp)
    unfold maxL
    by_cases h : x ≤ maxL (z :: r)
    · rw [Int.max_eq_right h]; exact List.mem_cons_of_mem _ this
    · rw [Int.max_eq_left (by omega)]; exact List.mem_cons_self
theorem minL_le : ∀ (ns : List Int) (y : Int), y ∈ ns → minL ns ≤ y
  | [x], y, h => by rcases List.mem_cons.mp h with rfl | h; exact Int.le_refl _; cases h
  | x :: z :: r, y, h => by
    unfold minL
    rcases List.mem_cons.mp h with rfl | h
    · omega
    · have := minL_le (z :: r) y h
      omega
theorem minL_mem : ∀ (ns : List Int), ns ≠ [] → minL ns ∈ ns
  | [], h => absurd rfl h
  | [x], _ => List.mem_cons_self
  | x :: z :: r, _ => by
    have := minL_mem (z :: r) (by simp)
    unfold minL
    by_cases h : x ≤ minL (z :: r)
    · rw [Int.min_eq_left h]; exact List.mem_cons_self
    · rw [Int.min_eq_right (by omega)]; exact List.mem_cons_of_mem _ this
/-- max, min of a list of ints, or of two ints -/
def mmR (f : List Int → Int) : List Res → Option Res
  | [a] => match a.lst with
    | some ds => match toInts ds with
      | some ns => if ns ≠ [] then some (.sh (.int (f ns))) else none
      | none => none
    | none => none
  | [a, b] => match a.toi, b.toi with
    | some i, some j => some (.sh (.int (f [i, j])))
    | _, _ => none
  | _ => none
def rMaxA (K : PySem.W.Frag) : List V → Hp → VK → Prop := fun xs H Q => rMax K xs H Q ∨ ∃ i j, xs = [.int i, .int j] ∧ Q (.int (if j > i then j else i)) H
def rMinA (K : PySem.W.Frag) : List V → Hp → VK → Prop := fun xs H Q => rMin K xs H Q ∨ ∃ i j, xs = [.int i, .int j] ∧ Q (.int (if j < i then j else i)) H
theorem call_maxA {X : Cx} (hc : X.calm = true) : CallR X (.builtin "max") (rMaxA X.K) := (L2.cr_max hc).or (call_max2 hc)
theorem call_minA {X : Cx} (hc : X.calm = true) : CallR X (.builtin "min") (rMinA X.K) := (L2.cr_min hc).or (call_min2 hc)
theorem mm_some {f : List Int → Int} {as : List Res} {c : Res} (e : mmR f as = some c) :
    (∃ a ds ns, as = [a] ∧ a.lst = some ds ∧ ds = ns.map PyData.int ∧ ns ≠ [] ∧ c = .sh (.int (f ns))) ∨ ∃ a b i j, as = [a, b] ∧ a.toi = some i ∧ b.toi = some j ∧ c = .sh (.int (f [i, j])) := by
  unfold mmR at e
  split at e
  · rename_i a
    cases h1 : a.lst with
    | none => rw [h1] at e; cases e
    | some ds =>
      cases h2 : toInts ds with
      | none => rw [h1] at e; simp only [h2] at e; cases e
      | some ns =>
        rw [h1] at e
        simp only [h2] at e
        obtain ⟨hn, rfl⟩ := ite_some e
        exact .inl ⟨a, ds, ns, rfl, h1, toInts_eq h2, hn, rfl⟩
  · rename_i a b
    cases h1 : a.toi with
    | none => rw [h1] at e; cases e
    | some i =>
      cases h2 : b.toi with
      | none => rw [h1, h2] at e; cases e
      | some j =>
        rw [h1, h2] at e
        cases e
        exact .inr ⟨a, b, i, j, rfl, h1, h2, rfl⟩
  · cases e
theorem cr_maxA : CRok K (rMaxA K) (mmR maxL) := fun H0 Z O Hs H xs as c Q e bs sm v k => by
  rcases mm_some e with ⟨a, ds, ns, rfl, h1, rfl, hn, rfl⟩ | ⟨a, b, i, j, rfl, h1, h2, rfl⟩
  · cases v with
    | cons v1 vr =>
      cases vr
      obtain ⟨p, vs, rfl, hs, hd⟩ := v1.lst h1
      have ev := dpa_toInts hd
      subst ev
      refine .inl ⟨p, ns, rfl, hs, List.length_pos_iff.mpr hn, fun m hm hle => ?_⟩
      have e1 : m = maxL ns := Int.le_antisymm (maxL_le ns m hm) (hle _ (maxL_mem ns hn))
      rw [e1]
      exact k _ H (Same.refl H) .int
  · cases v with
    | cons v1 vr =>
      cases vr with
      | cons v2 vr =>
        cases vr
        refine .inr ⟨i, j, by rw [v1.toi h1, v2.toi h2], ?_⟩
        have e1 : (if j > i then j else i) = maxL [i, j] := by
          show _ = max i j
          split <;> omega
        rw [e1]
        exact k _ H (Same.refl H) .int
theorem cr_minA : CRok K (rMinA K) (mmR minL) := fun H0 Z O Hs H xs as c Q e bs sm v k => by
  rcases mm_some e with ⟨a, ds, ns, rfl, h1, rfl, hn, rfl⟩ | ⟨a, b, i, j, rfl, h1, h2, rfl⟩
  · cases v with
    | cons v1 vr =>
      cases vr
      obtain ⟨p, vs, rfl, hs, hd⟩ := v1.lst h1
      have ev := dpa_toInts hd
      subst ev
      refine .inl ⟨p, ns, rfl, hs, List.length_pos_iff.mpr hn, fun m hm hle => ?_⟩
      have e1 : m = minL ns := Int.le_antisymm (hle _ (minL_mem ns hn)) (minL_le ns m hm)
      rw [e1]
      exact k _ H (Same.refl H) .int
  · cases v with
    | cons v1 vr =>
      cases vr with
      | cons v2 vr =>
        cases vr
        refine .inr ⟨i, j, by rw [v1.toi h1, v2.toi h2], ?_⟩
        have e1 : (if j < i then j else i) = minL [i, j] := by
          show _ = min i j
          split <;> omega
        rw [e1]
        exact k _ H (Same.refl H) .int
def sumR (a : Res) : Option Res := match a.lst with
  | some ds => match toInts ds with
    | some ns => some (.sh (.int ns.sum))
    | none => none
  | none => none
theorem cr_sumA : CRok K (rSum K) (on1 sumR) := cr_1 fun H0 Z O Hs H x a c Q e bs sm v k => by
  unfold sumR at e
  cases h1 : a.lst with
  | none => rw [h1] at e; cases e
  | some ds =>
    cases h2 : toInts ds with
    | none => rw [h1] at e; simp only [h2] at e; cases e
    | some ns =>
      rw [h1] at e
      simp only [h2] at e
      cases e
      obtain ⟨p, vs, rfl, hs, hd⟩ := v.lst h1
      have e3 := toInts_eq h2
      subst e3
      have ev := dpa_toInts hd
      subst ev
      exact ⟨p, ns, rfl, hs, k _ H (Same.refl H) .int⟩

/-! ### isinstance -/
inductive Kd where
  | int | bool | str | list | tuple
  deriving DecidableEq
def Kd.nm : Kd → String
  | .int => "int" | .bool => "bool" | .str => "str" | .list => "list" | .tuple => "tuple"
def isK : Kd → PyData → Bool
  | .int, .int _ => true
  | .int, .bool _ => true
  | .bool, .bool _ => true
  | .str, .str _ => true
  | .list, .list _ => true
  | .tuple, .tuple _ => true
  | _, _ => false
def tyN : PyData → String
  | .none => "NoneType" | .bool _ => "bool" | .int _ => "int" | .str _ => "str" | .list _ => "list" | .tuple _ => "tuple" | .dict _ => "dict"
theorem kit_tab : ∀ k : Kd, ∀ d : PyData, (∀ kvs, d ≠ .dict kvs) → kitB (tyN d) k.nm = some (isK k d) := by
  have t : ∀ k : Kd, kitB "NoneType" k.nm = some false ∧ kitB "bool" k.nm = some (isK k (.bool true)) ∧ kitB "int" k.nm = some (isK k (.int 0)) ∧
      kitB "str" k.nm = some (isK k (.str "")) ∧ kitB "list" k.nm = some (isK k (.list [])) ∧ kitB "tuple" k.nm = some (isK k (.tuple [])) := by
    intro k
    cases k <;> decide +kernel
  intro k d hd
  obtain ⟨h1, h2, h3, h4, h5, h6⟩ := t k
  cases d with
  | none => rw [show tyN .none = "NoneType" from rfl, h1]; cases k <;> rfl
  | bool b => rw [show tyN (.bool b) = "bool" from rfl, h2]; cases k <;> rfl
  | int b => rw [show tyN (.int b) = "int" from rfl, h3]; cases k <;> rfl
  | str b => rw [show tyN (.str b) = "str" from rfl, h4]; cases k <;> rfl
  | list b => rw [show tyN (.list b) = "list" from rfl, h5]; cases k <;> rfl
  | tuple b => rw [show tyN (.tuple b) = "tuple" from rfl, h6]; cases k <;> rfl
  | dict b => exact absurd rfl (hd b)
theorem dp_ty {H : Hp} {v : V} {d : PyData} (h : Dp K H v d) : TyX K H v (.type (tyN d)) ∧ ∀ kvs, d ≠ .dict kvs := by
  cases h with
  | non => exact ⟨.base .non, fun _ z => by cases z⟩
  | bl b => exact ⟨.base (.bl b), fun _ z => by cases z⟩
  | int b => exact ⟨.base (.int b), fun _ z => by cases z⟩
  | str b => exact ⟨.base (.str b), fun _ z => by cases z⟩
  | lst hs _ =>
    refine ⟨?_, fun _ z => by cases z⟩
    rcases hs with (h | ⟨o, h⟩) | ⟨o, its, n, h1, h2, _⟩
    · exact .base (.lst h)
    · exact .base (.frz h)
    · exact .kList h1 h2
  | tup hs _ =>
    refine ⟨?_, fun _ z => by cases z⟩
    rcases hs with (h | ⟨o, h⟩) | ⟨o, its, n, h1, h2, _⟩
    · exact .base (.tup h)
    · exact .fTuple h
    · exact .kTuple h1 h2
@[simp] def eIsi (k : Kd) (a : Rh → Option Res) : Rh → Option Res := fun ρ => (a ρ).bind fun r => some (.sh (.bool (isK k r.dat)))
theorem eok_isi (k : Kd) {ta : TE} {a : Rh → Option Res} (ha : EOk K ta a) : EOk K (tCB (rIsi K) (tCons ta (tCons (tC (.ty k.nm)) tNil))) (eIsi k a) := fun H0 Z O ρ z σ H Q e c q => by
  obtain ⟨x, e1, e⟩ := bind_some e
  cases e
  refine ha H0 Z O ρ x σ H _ e1 c fun v H1 s1 v1 => ?_
  obtain ⟨ty, nd⟩ := dp_ty v1.full
  exact ⟨v, .ty k.nm, _, _, _, rfl, .ty _, ty, kit_ty (kit_tab k _ nd), q _ H1 s1 .bool⟩

/-! ### repr -/
def reprR (a : Res) : Option Res := if a.dat.showable = true ∧ SeqAt.shaped a.dat = true ∧ a.dat.shown.length ≤ LIM then some (.sh (.str a.dat.shown)) else none
def rRepr (K : PySem.W.Frag) : List V → Hp → VK → Prop := fun xs H Q => ∃ x d, xs = [x] ∧ Dp K H x d ∧ d.showable = true ∧ SeqAt.shaped d = true ∧ d.shown.length ≤ sizeLine ∧ Q (.str d.shown) H
theorem call_repr {X : Cx} (hG : X.A.guards = some []) (hu : X.A.units + 66 < cLine) : CallR X (.builtin "repr") (rRepr X.K) := fun pins s σ H xs us Q I r h => by
  obtain ⟨x, d, rfl, hd, hs, sh, hl, q⟩ := h
  obtain ⟨u, rfl, ru⟩ := vals1 r
  have nd := PyData.hasDict_of_canLay d (SeqAt.canLay_of_shaped sh)
  have dep := SeqAt.depth_of_shaped sh
  obtain ⟨as, rd⟩ := Dp.reads I d x u hd ru
  have ref : ∀ a : Addr, u = .ref a → wpAny (model X.prog X.w) X.A (call (.builtin "repr") [u]) (EP X pins σ Q) X.xe s := fun a e => by
    subst e
    exact repr_of_reads' rd hs (fun z => by rw [nd] at z; cases z) hG (by omega) (fun _ _ e => e) (fun h' w tk k => ⟨.str d.shown, H, I.kept k, ⟨_, rfl⟩, q⟩) hl
  cases hd with
  | non => cases ru; exact PySem.P.repr_of_none ⟨.str _, H, I.tok _, ⟨_, rfl⟩, by simpa only [PyData.shown] using q⟩
  | bl b => cases ru; exact PySem.P.repr_of_bool ⟨.str _, H, I.tok _, ⟨_, rfl⟩, by simpa only [PyData.shown] using q⟩
  | int i =>
    obtain ⟨t, rfl⟩ := ru
    exact PySem.P.repr_of_int (by simpa [PyData.showable] using hs) ⟨.str _, H, I.tok _, ⟨_, rfl⟩, by simpa only [PyData.shown] using q⟩
  | str z =>
    obtain ⟨t, rfl⟩ := ru
    exact PySem.P.repr_of_str ⟨.str _, H, I.tok _, ⟨_, rfl⟩, by simpa only [PyData.shown] using q⟩ (by simpa only [PyData.shown] using hl)
  | lst _ _ => cases ru; exact ref _ rfl
  | tup _ _ => cases ru; exact ref _ rfl
theorem cr_repr : CRok K (rRepr K) (on1 reprR) := cr_1 fun H0 Z O Hs H x a c Q e bs sm v k => by
  obtain ⟨⟨h1, h2, h3⟩, rfl⟩ := ite_some e
  exact ⟨x, a.dat, rfl, v.full, h1, h2, lim_line h3, k _ H (Same.refl H) .str⟩
end
end F3
set_option maxRecDepth 100000
namespace F3
open PySem PySem.Spec PyProof.Rows L2
section
variable {K : PySem.W.Frag}

/-! ### what is walked -/
def ItOk (K : PySem.W.Frag) (H0 : Hp) (Z : List Addr) (J : It) (O : List Addr) (H1 : Hp) (items : List PyData) : Prop := ∀ (O' : List Addr) (H' : Hp), Bs H0 Z O' H' → Same (off H1 O) (off H' O') →
  (∀ i d, items[i]? = some d → J.go i H' ∧ ∀ x H'', J.yld i H' x H'' → Same H' H'' ∧ Dp K (off H'' O') x d) ∧ ∀ i, items.length ≤ i → J.stop i H'
def IOk (K : PySem.W.Frag) (wi : TI) (f : Rh → Option (List PyData)) : Prop := ∀ (H0 : Hp) (Z O : List Addr) (ρ : Rh) (items : List PyData) (σ : L2.St) (H : Hp) (R : It → Hp → Prop),
  f ρ = some items → Cor K H0 Z O ρ σ H → (∀ J H', Same H H' → ItOk K H0 Z J O H' items → R J H') → wi σ H R
theorem pi_or {X : Cx} {tg e : Expr} {w1 w2 : TI} (h1 : PI X tg e w1) (h2 : PI X tg e w2) : PI X tg e (fun σ H R => w1 σ H R ∨ w2 σ H R) :=
  ⟨fun pins s σ H R I h => h.elim (h1.run pins s σ H R I) (h2.run pins s σ H R I)⟩
def iSeq (K : PySem.W.Frag) (t : TE) : TI := fun σ H R => iList K t σ H R ∨ iTup K t σ H R
theorem pi_seq {X : Cx} {tg e : Expr} {t : TE} (h : PE X e t) : PI X tg e (iSeq X.K t) := pi_or (pi_list h) (pi_tup h)
def itSeq (a : Rh → Option Res) : Rh → Option (List PyData) := fun ρ => (a ρ).bind fun r => match r with
  | .sh (.list ds) => some ds
  | .sh (.tuple ds) => some ds
  | .fr ds => some ds
  | _ => none
theorem it_list {H0 H1 : Hp} {Z O : List Addr} {p : Addr} {vs : List V} {ds : List PyData} (hs : SqL K (off H1 O) p vs) (hd : DpAll K (off H1 O) vs ds) : ItOk K H0 Z (Itl K p) O H1 ds := fun O' H' b sm => by
  have hs' : SqL K H' p vs := off_le.seq (sm.seq hs)
  refine ⟨fun i d e => ?_, fun i hi => ⟨vs, hs', by rw [dpa_len hd]; exact hi⟩⟩
  obtain ⟨v, e1, e2⟩ := dpa_get hd e
  refine ⟨⟨vs, v, hs', e1⟩, fun x H'' y => ?_⟩
  obtain ⟨rfl, y⟩ := y
  have := y vs hs'
  rw [e1] at this
  cases this
  exact ⟨Same.refl _, dp_mono sm d v e2⟩
theorem it_tup {H0 H1 : Hp} {Z O : List Addr} {p : Addr} {vs : List V} {ds : List PyData} (hs : SqT K (off H1 O) p vs) (hd : DpAll K (off H1 O) vs ds) : ItOk K H0 Z (Itt K p) O H1 ds := fun O' H' b sm => by
  have hs' : SqT K H' p vs := Same.tup off_le (Same.tup sm hs)
  refine ⟨fun i d e => ?_, fun i hi => ⟨vs, hs', by rw [dpa_len hd]; exact hi⟩⟩
  obtain ⟨v, e1, e2⟩ := dpa_get hd e
  refine ⟨⟨vs, v, hs', e1⟩, fun x H'' y => ?_⟩
  obtain ⟨rfl, y⟩ := y
  have := y vs hs'
  rw [e1] at this
  cases this
  exact ⟨Same.refl _, dp_mono sm d v e2⟩
theorem iok_seq {t : TE} {a : Rh → Option Res} (ha : EOk K t a) : IOk K (iSeq K t) (itSeq a) := fun H0 Z O ρ items σ H R e c q => by
  obtain ⟨r, e1, e⟩ := bind_some e
  split at e
  · cases e
    refine .inl (ha H0 Z O ρ _ σ H _ e1 c fun v H1 s1 v1 => ?_)
    have v1 : Dp K (off H1 O) v (.list _) := v1
    cases v1 with
    | lst hs hd => exact ⟨_, rfl, ⟨_, off_le.seq hs⟩, q _ H1 s1 (it_list hs hd)⟩
  · cases e
    refine .inr (ha H0 Z O ρ _ σ H _ e1 c fun v H1 s1 v1 => ?_)
    have v1 : Dp K (off H1 O) v (.tuple _) := v1
    cases v1 with
    | tup hs hd => exact ⟨_, rfl, ⟨_, Same.tup off_le hs⟩, q _ H1 s1 (it_tup hs hd)⟩
  · cases e
    refine .inl (ha H0 Z O ρ _ σ H _ e1 c fun v H1 s1 v1 => ?_)
    have v2 := v1.shr rfl
    cases v2 with
    | lst hs hd => exact ⟨_, rfl, ⟨_, off_le.seq hs⟩, q _ H1 s1 (it_list hs hd)⟩
  · cases e
/-- ranges -/
def rangeD (lo c : Int) (n : Nat) : List PyData := (List.range n).map fun (k : Nat) => .int (lo + (k : Int) * c)
theorem rangeD_get {lo c : Int} {n i : Nat} {d : PyData} (h : (rangeD lo c n)[i]? = some d) : i < n ∧ d = .int (lo + (i : Int) * c) := by
  unfold rangeD at h
  rw [List.getElem?_map] at h
  by_cases hi : i < n
  · rw [List.getElem?_range hi] at h
    cases h
    exact ⟨hi, rfl⟩
  · rw [List.getElem?_eq_none (by rw [List.length_range]; omega)] at h
    cases h
theorem rangeD_len (lo c : Int) (n : Nat) : (rangeD lo c n).length = n := by unfold rangeD; rw [List.length_map, List.length_range]
theorem it_rng {H0 H1 : Hp} {Z O : List Addr} (lo : Int) (n : Nat) : ItOk K H0 Z (Itr lo n) O H1 (rangeD lo 1 n) := fun O' H' b sm => by
  refine ⟨fun i d e => ?_, fun i hi => by rw [rangeD_len] at hi; exact hi⟩
  obtain ⟨hi, rfl⟩ := rangeD_get e
  refine ⟨hi, fun x H'' y => ?_⟩
  obtain ⟨rfl, rfl⟩ := y
  rw [Int.mul_one]
  exact ⟨Same.refl _, .int _⟩
theorem it_rngC {H0 H1 : Hp} {Z O : List Addr} (lo c : Int) (n : Nat) : ItOk K H0 Z (Itc lo c n) O H1 (rangeD lo c n) := fun O' H' b sm => by
  refine ⟨fun i d e => ?_, fun i hi => by rw [rangeD_len] at hi; exact hi⟩
  obtain ⟨hi, rfl⟩ := rangeD_get e
  refine ⟨hi, fun x H'' y => ?_⟩
  obtain ⟨rfl, rfl⟩ := y
  exact ⟨Same.refl _, .int _⟩
def rOk (j : Int) : Prop := -(2 ^ 62) ≤ j ∧ j < 2 ^ 62
noncomputable instance (j : Int) : Decidable (rOk j) := Classical.propDecidable _
/-- the numbers of arguments -/
def toIs : List Res → Option (List Int)
  | [] => some []
  | r :: rs => match r.toi, toIs rs with
    | some i, some is => some (i :: is)
    | _, _ => none
theorem toIs_ok {H0 Hs H : Hp} {O : List Addr} : ∀ {rs : List Res} {vs : List V} {ns : List Int}, Paired (Vl K H0 Hs O H) rs vs → toIs rs = some ns → vs = ns.map V.int
  | [], _, _, .nil, e => by cases e; rfl
  | r :: rs, _, ns, .cons h t, e => by
    unfold toIs at e
    cases e1 : r.toi with
    | none => rw [e1] at e; cases e
    | some d =>
      cases e2 : toIs rs with
      | none => rw [e1, e2] at e; cases e
      | some es =>
        rw [e1, e2] at e
        cases e
        rw [h.toi e1, toIs_ok t e2]
        rfl
noncomputable def rngD0 : List Int → Option (List PyData)
  | [j] => if rOk j then some (rangeD 0 1 j.toNat) else none
  | [i, j] => if rOk i ∧ rOk j then some (rangeD i 1 (j - i).toNat) else none
  | [i, j, c] => if c ≠ 0 ∧ c.natAbs < 1073741824 ∧ Builtin.Range.small i j c = true ∧ 0 ≤ Builtin.Range.rangeSize i j c then some (rangeD i c (Builtin.Range.rangeSize i j c).toNat) else none
  | _ => none
/-- sealed, so that no check unfolds it -/
noncomputable def rngD : List Int → Option (List PyData) := Classical.choose (⟨rngD0, rfl⟩ : ∃ g, g = rngD0)
theorem rngD_eq : rngD = rngD0 := Classical.choose_spec (⟨rngD0, rfl⟩ : ∃ g, g = rngD0)
@[simp] noncomputable def itRng (as : Rh → Option (List Res)) : Rh → Option (List PyData) := fun ρ => (as ρ).bind fun rs => (toIs rs).bind rngD
theorem iok_rng1 {t : TA} {a : Rh → Option Res} (ha : AOk K t (aCons a aNil)) : IOk K (iRng1 t) (itRng (aCons a aNil)) := fun H0 Z O ρ items σ H R e c q => by
  obtain ⟨rs, e1, e⟩ := bind_some e
  obtain ⟨ns, e2, e⟩ := bind_some e
  rw [rngD_eq] at e
  refine ha H0 Z O ρ rs σ H _ e1 c fun vs H1 s1 v1 => ?_
  have hv := toIs_ok v1 e2
  have hl := an_cons an_nil ρ rs e1
  match ns, hv, e with
  | [j], hv, e =>
    obtain ⟨h, rfl⟩ := ite_some e
    exact ⟨j, hv, h.1, h.2, q _ H1 s1 (it_rng 0 j.toNat)⟩
  | [i, j], hv, e => rw [hv] at v1; cases v1 with | cons _ v => cases v with | cons _ v => cases v; cases hl
  | [i, j, k], hv, e => rw [hv] at v1; cases v1 with | cons _ v => cases v with | cons _ v => cases v with | cons _ v => cases v; cases hl
theorem iok_rng2 {t : TA} {a b : Rh → Option Res} (ha : AOk K t (aCons a (aCons b aNil))) : IOk K (iRng2 t) (itRng (aCons a (aCons b aNil))) := fun H0 Z O ρ items σ H R e c q => by
  obtain ⟨rs, e1, e⟩ := bind_some e
  obtain ⟨ns, e2, e⟩ := bind_some e
  rw [rngD_eq] at e
  refine ha H0 Z O ρ rs σ H _ e1 c fun vs H1 s1 v1 => ?_
  have hv := toIs_ok v1 e2
  have hl := an_cons (an_cons an_nil) ρ rs e1
  match ns, hv, e with
  | [i, j], hv, e =>
    obtain ⟨h, rfl⟩ := ite_some e
    exact ⟨i, j, hv, ⟨h.1.1, h.1.2, h.2.1, h.2.2⟩, q _ H1 s1 (it_rng i (j - i).toNat)⟩
  | [j], hv, e => rw [hv] at v1; cases v1 with | cons _ v => cases v; cases hl
  | [i, j, k], hv, e => rw [hv] at v1; cases v1 with | cons _ v => cases v with | cons _ v => cases v with | cons _ v => cases v; cases hl
theorem iok_rng3 {t : TA} {a b d : Rh → Option Res} (ha : AOk K t (aCons a (aCons b (aCons d aNil)))) : IOk K (iRng3 t) (itRng (aCons a (aCons b (aCons d aNil)))) := fun H0 Z O ρ items σ H R e c q => by
  obtain ⟨rs, e1, e⟩ := bind_some e
  obtain ⟨ns, e2, e⟩ := bind_some e
  rw [rngD_eq] at e
  refine ha H0 Z O ρ rs σ H _ e1 c fun vs H1 s1 v1 => ?_
  have hv := toIs_ok v1 e2
  have hl := an_cons (an_cons (an_cons an_nil)) ρ rs e1
  match ns, hv, e with
  | [i, j, k], hv, e =>
    obtain ⟨⟨h1, h2, h3, h4⟩, rfl⟩ := ite_some e
    exact ⟨i, j, k, (Builtin.Range.rangeSize i j k).toNat, hv, ⟨h1, h2, h3, by omega⟩, q _ H1 s1 (it_rngC i k _)⟩
  | [j], hv, e => rw [hv] at v1; cases v1 with | cons _ v => cases v; cases hl
  | [i, j], hv, e => rw [hv] at v1; cases v1 with | cons _ v => cases v with | cons _ v => cases v; cases hl

/-! ### targets -/
def GOk (K : PySem.W.Frag) (S : List Nat) (g : TG) (f : PyData → Rh → Option Rh) : Prop := ∀ (H0 : Hp) (Z O : List Addr) (ρ ρ' : Rh) (σ : L2.St) (H : Hp) (v : V) (d : PyData) (Q : L2.St → Hp → Prop),
  f d ρ = some ρ' → Cor K H0 Z O ρ σ H → Dp K (off H O) v d → (∀ σ' : L2.St, Cor K H0 Z O ρ' σ' H → σ'.length = σ.length → (∀ j : Nat, j ∉ S → σ'[j]? = σ[j]?) → Q σ' H) → g v σ H Q
def GsOk (K : PySem.W.Frag) (S : List Nat) (g : TGs) (f : List PyData → Rh → Option Rh) : Prop := ∀ (H0 : Hp) (Z O : List Addr) (ρ ρ' : Rh) (σ : L2.St) (H : Hp) (v : List V) (d : List PyData) (Q : L2.St → Hp → Prop),
  f d ρ = some ρ' → Cor K H0 Z O ρ σ H → DpAll K (off H O) v d → (∀ σ' : L2.St, Cor K H0 Z O ρ' σ' H → σ'.length = σ.length → (∀ j : Nat, j ∉ S → σ'[j]? = σ[j]?) → Q σ' H) → g v σ H Q
@[simp] def gNm (i : Nat) : PyData → Rh → Option Rh := fun d ρ => some (ρ.set i (some (.sh d)))
def gsN : List PyData → Rh → Option Rh
  | [], ρ => some ρ
  | _ :: _, _ => none
def gsC (f : PyData → Rh → Option Rh) (fs : List PyData → Rh → Option Rh) : List PyData → Rh → Option Rh
  | d :: ds, ρ => (f d ρ).bind (fs ds)
  | [], _ => none
def gTp (fs : List PyData → Rh → Option Rh) : PyData → Rh → Option Rh
  | .tuple ds, ρ => fs ds ρ
  | _, _ => none
theorem gok_name (i : Nat) : GOk K [i] (gName i) (gNm i) := fun H0 Z O ρ ρ' σ H v d Q e c h q => by
  cases e
  exact q _ (c.setS i h) (List.length_set ..) fun j hj => List.getElem?_set_ne fun z => hj (by rw [z]; exact List.mem_cons_self)
theorem gsok_nil : GsOk K [] gNil gsN := fun H0 Z O ρ ρ' σ H v d Q e c h q => by
  cases d with
  | nil =>
    cases e
    cases h
    exact ⟨rfl, q σ c rfl fun _ _ => rfl⟩
  | cons a r => cases e
theorem gsok_cons {S T : List Nat} {g : TG} {gs : TGs} {f : PyData → Rh → Option Rh} {fs : List PyData → Rh → Option Rh} (h1 : GOk K S g f) (h2 : GsOk K T gs fs) : GsOk K (S ++ T) (gCons g gs) (gsC f fs) :=
  fun H0 Z O ρ ρ' σ H v d Q e c h q => by
    cases d with
    | nil => cases e
    | cons a r =>
      obtain ⟨ρ1, e1, e⟩ := bind_some e
      cases h with
      | cons ha hr =>
        refine ⟨_, _, rfl, h1 H0 Z O ρ ρ1 σ H _ a _ e1 c ha fun σ1 c1 l1 k1 => h2 H0 Z O ρ1 ρ' σ1 H _ r _ e c1 hr fun σ2 c2 l2 k2 => q σ2 c2 (l2.trans l1) fun j hj => ?_⟩
        rw [k2 j fun z => hj (List.mem_append_right _ z), k1 j fun z => hj (List.mem_append_left _ z)]
theorem gs_len {n : Nat} : ∀ {fs : List PyData → Rh → Option Rh}, (∀ ds ρ ρ', fs ds ρ = some ρ' → ds.length = n) → ∀ (f : PyData → Rh → Option Rh) ds ρ ρ', gsC f fs ds ρ = some ρ' → ds.length = n + 1 := fun {fs} h f ds ρ ρ' e => by
  cases ds with
  | nil => cases e
  | cons a r =>
    obtain ⟨ρ1, e1, e⟩ := bind_some e
    rw [List.length_cons, h r ρ1 ρ' e]
theorem gs_len0 : ∀ ds ρ ρ', gsN ds ρ = some ρ' → ds.length = 0 := fun ds ρ ρ' e => by
  cases ds with
  | nil => rfl
  | cons a r => cases e
theorem gok_tup {S : List Nat} {n : Nat} {gs : TGs} {fs : List PyData → Rh → Option Rh} (h : GsOk K S gs fs) (hn : ∀ ds ρ ρ', fs ds ρ = some ρ' → ds.length = n) : GOk K S (gTup K n gs) (gTp fs) :=
  fun H0 Z O ρ ρ' σ H v d Q e c hd q => by
    cases d with
    | tuple ds =>
      cases hd with
      | tup hs ha => exact ⟨_, _, rfl, Same.tup off_le hs, by rw [dpa_len ha]; exact hn ds ρ ρ' e, h H0 Z O ρ ρ' σ H _ ds Q e c ha q⟩
    | _ => cases e

/-! ### comprehensions -/
@[simp] def wipeD (ρ : Rh) : List Nat → Rh
  | [] => ρ
  | v :: vs => (wipeD ρ vs).set v none
theorem wipe_len (σ : L2.St) : ∀ vs : List Nat, (wipe σ vs).length = σ.length := wipe_length σ
theorem Cor.wipeA {H0 H : Hp} {Z O : List Addr} {ρ : Rh} {σ : L2.St} (c : Cor K H0 Z O ρ σ H) : ∀ vs : List Nat, Cor K H0 Z O (wipeD ρ vs) (wipe σ vs) H
  | [] => c
  | v :: vs => by
    have c1 := Cor.wipeA c vs
    refine ⟨c1.bs, fun j r h => ?_, fun a b ds es p hab ha hb sa sb => c1.di a b ds es p hab (set_some ha) (set_some hb) (set_some sa) (set_some sb), ?_⟩
    · obtain ⟨w, e1, e2⟩ := c1.sl j r (set_some h)
      have hj : v ≠ j := fun z => by
        subst z
        rcases set_get h with ⟨_, h, _⟩ | ⟨h, _⟩
        · cases h
        · exact h rfl
      exact ⟨w, by unfold wipe; rw [List.getElem?_set_ne hj]; exact e1, e2⟩
    · unfold wipeD wipe
      rw [List.length_set, List.length_set]
      exact c1.len
theorem wipe_eq {σ σ' : L2.St} {vs S : List Nat} (hl : σ'.length = (wipe σ vs).length) (hS : ∀ i ∈ S, i ∈ vs) (h : ∀ j : Nat, j ∉ S → σ'[j]? = (wipe σ vs)[j]?) : wipe σ' vs = wipe σ vs := by
  have inn : ∀ (σ : L2.St) (vs : List Nat) (j : Nat), j ∈ vs → (wipe σ vs)[j]? = if j < σ.length then some none else none := by
    intro σ vs
    induction vs with
    | nil => intro j hj; cases hj
    | cons v vs ih =>
      intro j hj
      unfold wipe
      by_cases hv : v = j
      · subst hv
        by_cases hlt : v < σ.length
        · rw [if_pos hlt, List.getElem?_set_self (by rw [wipe_length]; exact hlt)]
        · rw [if_neg hlt, List.getElem?_eq_none (by rw [List.length_set, wipe_length]; omega)]
      · rw [List.getElem?_set_ne hv]
        rcases List.mem_cons.mp hj with z | z
        · exact absurd z.symm hv
        · exact ih j z
  apply List.ext_getElem?
  intro j
  rw [wipe_length] at hl
  by_cases hj : j ∈ vs
  · rw [inn _ _ _ hj, inn _ _ _ hj, hl]
  · rw [wipe_out hj]
    exact h j fun z => hj (hS j z)
theorem Cor.own {H0 H H' : Hp} {Z O : List Addr} {ρ : Rh} {σ : L2.St} (c : Cor K H0 Z O ρ σ H) (e : Same H H') {D : Addr} (hD : H D = none) (h' : ∃ o, H' D = some o) : Cor K H0 Z (D :: O) ρ σ H' ∧ Same (off H O) (off H' (D :: O)) := by
  have sm : Same (off H O) (off H' (D :: O)) := (off_new hD).trans (off_same e)
  have b := c.bs.mono e
  refine ⟨⟨⟨b.same, fun q hq => List.mem_cons_of_mem _ (b.zo q hq), b.z0, fun q hq => ?_⟩, fun j r ej => ?_, c.di, c.len⟩, sm⟩
  · rcases List.mem_cons.mp hq with rfl | hq
    · exact h'
    · exact b.live q hq
  · obtain ⟨w, e1, e2, e3⟩ := c.sl j r ej
    refine ⟨w, e1, ?_, e3⟩
    cases r with
    | sh d => exact dp_mono sm d w e2
    | fr xs => exact absurd rfl (e3 xs)
    | bo xs =>
      obtain ⟨q, ws, rfl, g0, gp, gl, gd⟩ := e2
      exact ⟨q, ws, rfl, g0, List.mem_cons_of_mem _ gp, e _ _ gl, dpa_mono sm xs ws gd⟩
/-- an owned list that is no slot's is written -/
theorem Cor.updO {H0 H : Hp} {Z O : List Addr} {ρ : Rh} {σ : L2.St} (c : Cor K H0 Z O ρ σ H) {D : Addr} {o : HO} (hD : D ∈ O) (h0 : H0 D = none) (hn : ∀ (i : Nat) ds, ρ[i]? = some (some (.bo ds)) → σ[i]? ≠ some (some (.ref D))) :
    Cor K H0 Z O ρ σ (upd H D o) := by
  refine ⟨⟨fun b u e => ?_, c.bs.zo, c.bs.z0, fun q hq => ?_⟩, fun j r ej => ?_, c.di, c.len⟩
  · rw [upd_ne (ne_of_none e h0)]; exact c.bs.same b u e
  · by_cases hq' : q = D
    · subst hq'; exact ⟨_, upd_same⟩
    · rw [upd_ne hq']; exact c.bs.live q hq
  · obtain ⟨w, e1, e2, e3⟩ := c.sl j r ej
    refine ⟨w, e1, ?_, e3⟩
    cases r with
    | sh d =>
      have e2 : Dp K (off H O) w d := e2
      show Dp K (off (upd H D o) O) w d
      rw [off_upd hD]
      exact e2
    | fr xs => exact absurd rfl (e3 xs)
    | bo xs =>
      obtain ⟨q, ws, rfl, g0, gp, gl, gd⟩ := e2
      refine ⟨q, ws, rfl, g0, gp, ?_, by rw [off_upd hD]; exact gd⟩
      rw [upd_ne fun z => hn j xs ej (by rw [← z]; exact e1)]
      exact gl
def lcD (g : PyData → Rh → Option Rh) (tt : Rh → Option Bool) (elt : Rh → Option Res) (ρ : Rh) : List PyData → Option (List PyData)
  | [] => some []
  | x :: xs => (g x ρ).bind fun ρ1 => (tt ρ1).bind fun b => if b = true then (elt ρ1).bind fun r => r.shr.bind fun d => (lcD g tt elt ρ xs).bind fun ds => some (d :: ds) else lcD g tt elt ρ xs
@[simp] def eLc (it : Rh → Option (List PyData)) (g : PyData → Rh → Option Rh) (tt : Rh → Option Bool) (elt : Rh → Option Res) (vs : List Nat) : Rh → Option Res := fun ρ =>
  (it ρ).bind fun xs => if xs.length ≤ LIM then (lcD g tt elt (wipeD ρ vs) xs).bind fun ds => some (.fr ds) else none
@[simp] def tYesD : Rh → Option Bool := fun _ => some true
theorem tok_yes : TOk K tYes tYesD := fun H0 Z O ρ b σ H Q e c q => by cases e; exact q H (Same.refl H)
theorem drop_at {α : Type} {l : List α} {i : Nat} {a : α} (h : l[i]? = some a) : l.drop i = a :: l.drop (i + 1) := by
  obtain ⟨hi, e⟩ := List.getElem?_eq_some_iff.mp h
  rw [List.drop_eq_getElem_cons hi, e]
theorem eok_lc {wi : TI} {g : TG} {tt : TT} {te : TE} {vs S : List Nat} {it : Rh → Option (List PyData)} {gd : PyData → Rh → Option Rh} {td : Rh → Option Bool} {ed : Rh → Option Res}
    (hi : IOk K wi it) (hg : GOk K S g gd) (ht : TOk K tt td) (he : EOk K te ed) (hS : ∀ i ∈ S, i ∈ vs) : EOk K (tLc wi g tt te vs) (eLc it gd td ed vs) := fun H0 Z O ρ z σ H Q e c q => by
  obtain ⟨items, e1, e⟩ := bind_some e
  by_cases hlim : items.length ≤ LIM
  case neg => rw [if_neg hlim] at e; cases e
  rw [if_pos hlim] at e
  obtain ⟨total, e2, e⟩ := bind_some e
  cases e
  refine hi H0 Z O ρ items σ H _ e1 c fun J H1 s1 hit => fun D hD => ?_
  have c1 := (c.mono s1).wipeA vs
  obtain ⟨c2, sm2⟩ := c1.own (same_new (o := .lst []) hD) hD ⟨_, upd_same⟩
  have hnD : ∀ (i : Nat) ds, (wipeD ρ vs)[i]? = some (some (.bo ds)) → (wipe σ vs)[i]? ≠ some (some (.ref D)) := fun i ds ei es => by
    obtain ⟨w, g1, ⟨p, ws, rfl, g2, g3, g4, _⟩, _⟩ := c1.sl i _ ei
    rw [es] at g1
    cases g1
    rw [hD] at g4
    cases g4
  have h0D : H0 D = none := c1.bs.same.free hD
  refine ⟨fun i m H' => m = items.length - i ∧ i ≤ items.length ∧ Same H1 H' ∧ Cor K H0 Z (D :: O) (wipeD ρ vs) (wipe σ vs) H' ∧ Same (off H1 O) (off H' (D :: O)) ∧
      ∃ acc accD rest, H' D = some (.lst acc) ∧ DpAll K (off H' (D :: O)) acc accD ∧ lcD gd td ed (wipeD ρ vs) (items.drop i) = some rest ∧ accD ++ rest = total ∧ accD.length ≤ i,
    ⟨items.length, rfl, Nat.zero_le _, same_new hD, c2, sm2, [], [], total, upd_same, .nil, e2, rfl, Nat.le_refl _⟩, fun i m H' hW => ?_⟩
  obtain ⟨rfl, hil, sH, cW, smW, acc, accD, rest, hacc, hdp, hrest, htot, hal⟩ := hW
  obtain ⟨hgo, hstop⟩ := hit (D :: O) H' cW.bs smW
  by_cases hlt : i < items.length
  · right
    obtain ⟨d, hd⟩ : ∃ d, items[i]? = some d := ⟨_, List.getElem?_eq_getElem hlt⟩
    obtain ⟨g1, g2⟩ := hgo i d hd
    refine ⟨g1, fun H'' => (Same H1 H'' ∧ Cor K H0 Z (D :: O) (wipeD ρ vs) (wipe σ vs) H'' ∧ Same (off H1 O) (off H'' (D :: O)) ∧
      ∃ acc accD rest, H'' D = some (.lst acc) ∧ DpAll K (off H'' (D :: O)) acc accD ∧ lcD gd td ed (wipeD ρ vs) (items.drop (i + 1)) = some rest ∧ accD ++ rest = total ∧ accD.length ≤ i + 1),
      fun H'' h => ⟨items.length - (i + 1), by omega, rfl, hlt, h⟩, fun x H2 hy => ?_⟩
    obtain ⟨s2, dx⟩ := g2 x H2 hy
    rw [drop_at hd] at hrest
    obtain ⟨ρ1, r1, hrest⟩ := bind_some hrest
    obtain ⟨b, r2, hrest⟩ := bind_some hrest
    have cW2 := cW.mono s2
    refine hg H0 Z (D :: O) _ ρ1 _ H2 x d _ r1 cW2 dx fun σ2 c3 hl3 k3 => ⟨wipe_eq hl3 hS k3, ht H0 Z (D :: O) ρ1 b σ2 H2 _ r2 c3 fun H3 s3 => ?_⟩
    have s23 := s2.trans s3
    have cW3 := cW2.mono s3
    by_cases hb : b = true
    · rw [if_pos hb] at hrest ⊢
      obtain ⟨r, r3, hrest⟩ := bind_some hrest
      obtain ⟨y, r4, hrest⟩ := bind_some hrest
      obtain ⟨ds, r5, hrest⟩ := bind_some hrest
      cases hrest
      refine he H0 Z (D :: O) ρ1 r σ2 H3 _ r3 (c3.mono s3) fun v H4 s4 v4 => ?_
      have s24 := s23.trans s4
      have cW4 := cW3.mono s4
      refine ⟨acc, s24 _ _ hacc, ?_, fun b u e => ?_, cW4.updO List.mem_cons_self h0D hnD, ?_, acc ++ [v], accD ++ [y], ds, upd_same, ?_, r5, ?_, ?_⟩
      · rw [dpa_len hdp]
        exact lim_lt (by omega)
      · rw [upd_ne (ne_of_none e hD)]
        exact s24 _ _ (sH _ _ e)
      · rw [off_upd List.mem_cons_self]
        exact smW.trans (off_same s24)
      · rw [off_upd List.mem_cons_self]
        exact dpa_append (dpa_mono (off_same s24) _ _ hdp) (.cons (v4.shr r4) .nil)
      · rw [List.append_assoc]
        exact htot
      · rw [List.length_append]
        simp only [List.length_cons, List.length_nil]
        omega
    · rw [if_neg hb] at hrest ⊢
      exact ⟨sH.trans s23, cW3, smW.trans (off_same s23), acc, accD, rest, s23 _ _ hacc, dpa_mono (off_same s23) _ _ hdp, hrest, htot, by omega⟩
  · left
    have ei : i = items.length := by omega
    subst ei
    rw [List.drop_length] at hrest
    cases hrest
    rw [List.append_nil] at htot
    subst htot
    exact ⟨hstop _ (Nat.le_refl _), q _ H' (s1.trans sH) ⟨D, acc, rfl, s1.free hD, (c1.bs.new hD).1, hacc, hdp⟩⟩
end
end F3
set_option maxRecDepth 100000
namespace F3
open PySem PySem.Spec PyProof.Rows L2

/-- how a block ends -/
inductive Out where
  | nx (ρ : Rh)
  | rt (r : Res)
  | ex (t : Str)
  | bk (ρ : Rh)
  | ct (ρ : Rh)
def Post (K : PySem.W.Frag) (W : Str → Hp → Prop) (H0 : Hp) (Z O : List Addr) (H : Hp) (D : Ends) : Out → Prop
  | .nx ρ => ∀ (O' : List Addr) (σ' : L2.St) (H' : Hp), Cor K H0 Z O' ρ σ' H' → Same (off H O) (off H' O') → D.nx σ' H'
  | .bk ρ => ∀ (O' : List Addr) (σ' : L2.St) (H' : Hp), Cor K H0 Z O' ρ σ' H' → Same (off H O) (off H' O') → D.bk σ' H'
  | .ct ρ => ∀ (O' : List Addr) (σ' : L2.St) (H' : Hp), Cor K H0 Z O' ρ σ' H' → Same (off H O) (off H' O') → D.ct σ' H'
  | .rt r => ∀ (v : V) (H' : Hp), Same H0 H' → Vl K H0 H0 Z H' r v → D.rt v H'
  | .ex t => ∀ (H' : Hp), Same H0 H' → W t H'
def SOk (K : PySem.W.Frag) (W : Str → Hp → Prop) (t : TS) (f : Rh → Option Out) : Prop := ∀ (H0 : Hp) (Z O : List Addr) (ρ : Rh) (o : Out) (σ : L2.St) (H : Hp) (D : Ends),
  f ρ = some o → Cor K H0 Z O ρ σ H → Post K W H0 Z O H D o → t D σ H
section
variable {K : PySem.W.Frag} {W : Str → Hp → Prop}
theorem Post.step {H0 H H1 : Hp} {Z O O1 : List Addr} {D : Ends} {o : Out} (h : Post K W H0 Z O H D o) (sm : Same (off H O) (off H1 O1)) : Post K W H0 Z O1 H1 D o := by
  cases o with
  | nx ρ => exact fun O' σ' H' c s => h O' σ' H' c (sm.trans s)
  | bk ρ => exact fun O' σ' H' c s => h O' σ' H' c (sm.trans s)
  | ct ρ => exact fun O' σ' H' c s => h O' σ' H' c (sm.trans s)
  | rt r => exact h
  | ex t => exact h
/-! ### blocks -/
@[simp] def sPass : Rh → Option Out := fun ρ => some (.nx ρ)
def sSeq (a b : Rh → Option Out) : Rh → Option Out := fun ρ => (a ρ).bind fun o => match o with
  | .nx ρ' => b ρ'
  | o => some o
theorem sok_pass : SOk K W tNext sPass := fun H0 Z O ρ o σ H D e c q => by
  cases e
  exact q O σ H c (Same.refl _)
theorem sok_seq {t u : TS} {a b : Rh → Option Out} (ha : SOk K W t a) (hb : SOk K W u b) : SOk K W (tSeq t u) (sSeq a b) := fun H0 Z O ρ o σ H D e c q => by
  obtain ⟨o1, e1, e⟩ := bind_some e
  refine ha H0 Z O ρ o1 σ H _ e1 c ?_
  cases o1 with
  | nx ρ1 => exact fun O1 σ1 H1 c1 s1 => hb H0 Z O1 ρ1 o σ1 H1 D e c1 (q.step s1)
  | bk ρ1 => cases e; exact q
  | ct ρ1 => cases e; exact q
  | rt r => cases e; exact q
  | ex t => cases e; exact q
@[simp] def sIf (k : Rh → Option Bool) (a b : Rh → Option Out) : Rh → Option Out := fun ρ => (k ρ).bind fun x => if x = true then a ρ else b ρ
theorem sok_if {tc : TT} {t u : TS} {k : Rh → Option Bool} {a b : Rh → Option Out} (hk : TOk K tc k) (ha : SOk K W t a) (hb : SOk K W u b) : SOk K W (tIfS tc t u) (sIf k a b) := fun H0 Z O ρ o σ H D e c q => by
  obtain ⟨x, e1, e⟩ := bind_some e
  refine hk H0 Z O ρ x σ H _ e1 c fun H1 s1 => ?_
  by_cases hx : x = true
  · rw [if_pos hx] at e ⊢
    exact ha H0 Z O ρ o σ H1 D e (c.mono s1) (q.step (off_same s1))
  · rw [if_neg hx] at e ⊢
    exact hb H0 Z O ρ o σ H1 D e (c.mono s1) (q.step (off_same s1))
@[simp] def sBreak : Rh → Option Out := fun ρ => some (.bk ρ)
@[simp] def sCont : Rh → Option Out := fun ρ => some (.ct ρ)
theorem sok_break : SOk K W tBreak sBreak := fun H0 Z O ρ o σ H D e c q => by
  cases e
  exact q O σ H c (Same.refl _)
theorem sok_cont : SOk K W tCont sCont := fun H0 Z O ρ o σ H D e c q => by
  cases e
  exact q O σ H c (Same.refl _)
/-- handing back -/
def retR : Res → Res
  | .bo ds => .fr ds
  | r => r
theorem vl_ret {H0 Hs H : Hp} {Z O : List Addr} {r : Res} {v : V} (b : Bs H0 Z O H) (s : Same H0 Hs) (h : Vl K H0 Hs O H r v) : Vl K H0 H0 Z H (retR r) v := by
  cases r with
  | sh d => exact dp_mono (off_sub b.zo) d v h
  | fr ds =>
    obtain ⟨p, vs, h1, h2, h3, h4, h5⟩ := h
    refine ⟨p, vs, h1, s.free h2, fun z => h3 (b.zo p z), h4, dpa_mono (off_sub fun q hq => ?_) ds vs h5⟩
    rcases List.mem_cons.mp hq with rfl | hq
    · exact List.mem_cons_self
    · exact List.mem_cons_of_mem _ (b.zo q hq)
  | bo ds =>
    obtain ⟨p, vs, h1, h2, h3, h4, h5⟩ := h
    refine ⟨p, vs, h1, h2, b.nz h2, h4, dpa_mono (off_sub fun q hq => ?_) ds vs h5⟩
    rcases List.mem_cons.mp hq with rfl | hq
    · exact h3
    · exact b.zo q hq
@[simp] def sRet (a : Rh → Option Res) : Rh → Option Out := fun ρ => (a ρ).bind fun r => some (.rt (retR r))
@[simp] def sRetN : Rh → Option Out := fun _ => some (.rt (.sh .none))
theorem sok_ret {te : TE} {a : Rh → Option Res} (ha : EOk K te a) : SOk K W (tRet te) (sRet a) := fun H0 Z O ρ o σ H D e c q => by
  obtain ⟨r, e1, e⟩ := bind_some e
  cases e
  exact ha H0 Z O ρ r σ H _ e1 c fun v H1 s1 v1 => q v H1 (c.bs.same.trans s1) (vl_ret (c.bs.mono s1) c.bs.same v1)
theorem sok_retN : SOk K W tRetN sRetN := fun H0 Z O ρ o σ H D e c q => by
  cases e
  exact q _ H c.bs.same .none
@[simp] def sDrop (a : Rh → Option Res) : Rh → Option Out := fun ρ => (a ρ).bind fun _ => some (.nx ρ)
theorem sok_drop {te : TE} {a : Rh → Option Res} (ha : EOk K te a) : SOk K W (tDrop te) (sDrop a) := fun H0 Z O ρ o σ H D e c q => by
  obtain ⟨r, e1, e⟩ := bind_some e
  cases e
  exact ha H0 Z O ρ r σ H _ e1 c fun v H1 s1 v1 => q O σ H1 (c.mono s1) (off_same s1)

/-! ### stores -/
def putR (ρ : Rh) (i : Nat) : Res → Option Rh
  | .sh d => some (ρ.set i (some (.sh d)))
  | .fr ds => some (ρ.set i (some (.bo ds)))
  | .bo _ => none
theorem put_ok {H0 H H' : Hp} {Z O : List Addr} {ρ ρ' : Rh} {σ : L2.St} {r : Res} {v : V} {i : Nat} (c : Cor K H0 Z O ρ σ H) (s : Same H H') (h : Vl K H0 H O H' r v) (e : putR ρ i r = some ρ') :
    ∃ O', Cor K H0 Z O' ρ' (σ.set i (some v)) H' ∧ Same (off H O) (off H' O') := by
  cases r with
  | sh d =>
    cases e
    exact ⟨O, (c.mono s).setS i h, off_same s⟩
  | fr ds =>
    cases e
    obtain ⟨p, vs, rfl, h2, h3, h4, h5⟩ := h
    exact ⟨p :: O, c.setF s i h2 h3 h4 h5⟩
  | bo ds => cases e
@[simp] def sSet (i : Nat) (a : Rh → Option Res) : Rh → Option Out := fun ρ => (a ρ).bind fun r => (putR ρ i r).bind fun ρ' => some (.nx ρ')
theorem sok_set {te : TE} {a : Rh → Option Res} (i : Nat) (ha : EOk K te a) : SOk K W (tAsg te (gName i)) (sSet i a) := fun H0 Z O ρ o σ H D e c q => by
  obtain ⟨r, e1, e⟩ := bind_some e
  obtain ⟨ρ', e2, e⟩ := bind_some e
  cases e
  refine ha H0 Z O ρ r σ H _ e1 c fun v H1 s1 v1 => ?_
  obtain ⟨O', c', sm⟩ := put_ok c s1 v1 e2
  exact q O' _ H1 c' sm
/-- (a, b, ..) = a tuple -/
@[simp] def sUnp (g : PyData → Rh → Option Rh) (a : Rh → Option Res) : Rh → Option Out := fun ρ => (a ρ).bind fun r => r.shr.bind fun d => (g d ρ).bind fun ρ' => some (.nx ρ')
theorem sok_unp {S : List Nat} {te : TE} {g : TG} {gd : PyData → Rh → Option Rh} {a : Rh → Option Res} (hg : GOk K S g gd) (ha : EOk K te a) : SOk K W (tAsg te g) (sUnp gd a) := fun H0 Z O ρ o σ H D e c q => by
  obtain ⟨r, e1, e⟩ := bind_some e
  obtain ⟨d, e2, e⟩ := bind_some e
  obtain ⟨ρ', e3, e⟩ := bind_some e
  cases e
  exact ha H0 Z O ρ r σ H _ e1 c fun v H1 s1 v1 => hg H0 Z O ρ ρ' σ H1 v d _ e3 (c.mono s1) (v1.shr e2) fun σ' c' _ _ => q O σ' H1 c' (off_same s1)
/-- a, b = x, y -/
def sPar (i j : Nat) (as : Rh → Option (List Res)) : Rh → Option Out := fun ρ => (as ρ).bind fun rs => (shrs rs).bind fun ds => match ds with
  | [x, y] => some (.nx ((ρ.set i (some (.sh x))).set j (some (.sh y))))
  | _ => none
theorem sok_par {t : TA} {as : Rh → Option (List Res)} (i j : Nat) (ha : AOk K t as) : SOk K W (tPar i j t) (sPar i j as) := fun H0 Z O ρ o σ H D e c q => by
  obtain ⟨rs, e1, e⟩ := bind_some e
  obtain ⟨ds, e2, e⟩ := bind_some e
  refine ha H0 Z O ρ rs σ H _ e1 c fun vs H1 s1 v1 => ?_
  obtain ⟨hd, _⟩ := shrs_ok v1 e2
  match ds, hd, e with
  | [x, y], hd, e =>
    cases e
    cases hd with
    | cons hx hd =>
      cases hd with
      | cons hy hd =>
        cases hd
        exact ⟨_, _, rfl, q O _ H1 (((c.mono s1).setS i hx).setS j hy) (off_same s1)⟩
/-- a slot's own list is written -/
theorem Cor.wr {H0 H : Hp} {Z O : List Addr} {ρ : Rh} {σ : L2.St} (c : Cor K H0 Z O ρ σ H) {i : Nat} {ds es : List PyData} {p : Addr} {ws : List V} (e : ρ[i]? = some (some (.bo ds)))
    (s : σ[i]? = some (some (.ref p))) (hd : DpAll K (off H O) ws es) : Cor K H0 Z O (ρ.set i (some (.bo es))) σ (upd H p (.lst ws)) ∧ off (upd H p (.lst ws)) O = off H O := by
  obtain ⟨v, h1, ⟨p', vs, rfl, h0, hp, hl, _⟩, _⟩ := c.sl i _ e
  rw [s] at h1
  cases h1
  have oe : off (upd H p (.lst ws)) O = off H O := off_upd hp
  refine ⟨⟨⟨fun b u eb => ?_, c.bs.zo, c.bs.z0, fun q hq => ?_⟩, fun j r ej => ?_, fun a b xs ys q hab ha hb sa sb => ?_, by rw [List.length_set]; exact c.len⟩, oe⟩
  · rw [upd_ne (ne_of_none eb h0)]; exact c.bs.same b u eb
  · by_cases hq' : q = p
    · subst hq'; exact ⟨_, upd_same⟩
    · rw [upd_ne hq']; exact c.bs.live q hq
  · rcases set_get ej with ⟨rfl, ej, _⟩ | ⟨hj, ej⟩
    · cases ej
      exact ⟨_, s, ⟨p, ws, rfl, h0, hp, upd_same, by rw [oe]; exact hd⟩, fun _ z => by cases z⟩
    · obtain ⟨w, e1, e2, e3⟩ := c.sl j r ej
      refine ⟨w, e1, ?_, e3⟩
      cases r with
      | sh d =>
        have e2 : Dp K (off H O) w d := e2
        show Dp K (off (upd H p (.lst ws)) O) w d
        rw [oe]
        exact e2
      | fr xs => exact absurd rfl (e3 xs)
      | bo xs =>
        obtain ⟨q, us, rfl, g0, gp, gl, gd⟩ := e2
        refine ⟨q, us, rfl, g0, gp, ?_, by rw [oe]; exact gd⟩
        rw [upd_ne fun z => c.di j i xs ds p hj ej e (by rw [← z]; exact e1) s]
        exact gl
  · have own : ∀ (a : Nat) (xs : List PyData), (ρ.set i (some (.bo es)))[a]? = some (some (.bo xs)) → ∃ ys, ρ[a]? = some (some (.bo ys)) := fun a xs h => by
      rcases set_get h with ⟨rfl, _, _⟩ | ⟨_, h⟩
      · exact ⟨ds, e⟩
      · exact ⟨xs, h⟩
    obtain ⟨_, ha'⟩ := own a xs ha
    obtain ⟨_, hb'⟩ := own b ys hb
    exact c.di a b _ _ q hab ha' hb' sa sb
/-- x.append(e), x a slot with a list of its own -/
def sApp (i : Nat) (a : Rh → Option Res) : Rh → Option Out := fun ρ => match ρ[i]? with
  | some (some (.bo ds)) => (a ρ).bind fun r => r.shr.bind fun d => if ds.length < LIM then some (.nx (ρ.set i (some (.bo (ds ++ [d]))))) else none
  | _ => none
theorem own_slot {H0 H : Hp} {Z O : List Addr} {ρ : Rh} {σ : L2.St} (c : Cor K H0 Z O ρ σ H) {i : Nat} {ds : List PyData} (e : ρ[i]? = some (some (.bo ds))) :
    ∃ p vs, σ[i]? = some (some (.ref p)) ∧ H p = some (.lst vs) ∧ DpAll K (off H O) vs ds := by
  obtain ⟨v, h1, ⟨p, vs, rfl, h0, hp, hl, hd⟩, _⟩ := c.sl i _ e
  exact ⟨p, vs, h1, hl, hd⟩
theorem sok_app {te : TE} {a : Rh → Option Res} (i : Nat) (ha : EOk K te a) : SOk K W (tDrop (tBM K "list" rAppend (tVar i) (tCons te tNil))) (sApp i a) := fun H0 Z O ρ o σ H D e c q => by
  unfold sApp at e
  split at e
  · rename_i ds hi
    obtain ⟨r, e1, e⟩ := bind_some e
    obtain ⟨d, e2, e⟩ := bind_some e
    obtain ⟨hl, rfl⟩ := ite_some e
    obtain ⟨p, vs, h1, h2, h3⟩ := own_slot c hi
    refine ⟨.ref p, h1, .inl ⟨rfl, vs, SqL.of h2⟩, ha H0 Z O ρ r σ H _ e1 c fun v H1 s1 v1 => ?_⟩
    have hd := dpa_append (dpa_mono (off_same s1) _ _ h3) (.cons (v1.shr e2) .nil)
    obtain ⟨c', oe⟩ := (c.mono s1).wr hi h1 hd
    exact ⟨p, vs, v, rfl, rfl, s1 _ _ h2, by rw [dpa_len h3]; exact lim_lt (Nat.le_of_lt hl), q O σ _ c' (by rw [oe]; exact off_same s1)⟩
  · cases e
/-- x.pop() as a statement -/
def sPop (i : Nat) : Rh → Option Out := fun ρ => match ρ[i]? with
  | some (some (.bo ds)) => if ds ≠ [] then some (.nx (ρ.set i (some (.bo ds.dropLast)))) else none
  | _ => none
theorem sok_pop (i : Nat) : SOk K W (tDrop (tBM0 K "list" rPop (tVar i))) (sPop i) := fun H0 Z O ρ o σ H D e c q => by
  unfold sPop at e
  split at e
  · rename_i ds hi
    obtain ⟨hne, rfl⟩ := ite_some e
    obtain ⟨p, vs, h1, h2, h3⟩ := own_slot c hi
    obtain ⟨c', oe⟩ := c.wr hi h1 (dpa_dropLast h3)
    have hl := dpa_len h3
    have hpos : 0 < ds.length := List.length_pos_iff.mpr hne
    refine ⟨.ref p, h1, .inl ⟨rfl, vs, SqL.of h2⟩, p, vs, vs[vs.length - 1]'(by omega), rfl, rfl, h2, List.getElem?_eq_getElem _, q O σ _ c' (by rw [oe]; exact Same.refl _)⟩
  · cases e
/-- x[k] = e, x a slot with a list of its own -/
def sPut (i : Nat) (k a : Rh → Option Res) : Rh → Option Out := fun ρ => (a ρ).bind fun r => r.shr.bind fun d => match ρ[i]? with
  | some (some (.bo ds)) => (k ρ).bind fun x => match x.toi with
    | some n => match ixN ds.length n with
      | some j => some (.nx (ρ.set i (some (.bo (ds.set j d)))))
      | none => none
    | none => none
  | _ => none
theorem sok_put {te tk : TE} {a k : Rh → Option Res} (i : Nat) (hk : EOk K tk k) (ha : EOk K te a) : SOk K W (tAsg te (gSub (tVar i) tk rSetL)) (sPut i k a) := fun H0 Z O ρ o σ H D e c q => by
  obtain ⟨r, e1, e⟩ := bind_some e
  obtain ⟨d, e2, e⟩ := bind_some e
  split at e
  · rename_i ds hi
    obtain ⟨x, e3, e⟩ := bind_some e
    split at e
    · rename_i n hn
      split at e
      · rename_i j hj
        cases e
        obtain ⟨p, vs, h1, h2, h3⟩ := own_slot c hi
        refine ha H0 Z O ρ r σ H _ e1 c fun v H1 s1 v1 => ⟨.ref p, h1, hk H0 Z O ρ x σ H1 _ e3 (c.mono s1) fun y H2 s2 v2 => ?_⟩
        have s02 := s1.trans s2
        have hd := dpa_set j (dpa_mono (off_same s02) _ _ h3) (dp_mono (off_same s2) _ _ (v1.shr e2))
        obtain ⟨c', oe⟩ := (c.mono s02).wr hi h1 hd
        exact ⟨p, vs, n, j, rfl, v2.toi hn, s02 _ _ h2, by rw [dpa_len h3]; exact hj, q O σ _ c' (by rw [oe]; exact off_same s02)⟩
      · cases e
    · cases e
  · cases e

/-! ### forgetting, sharing -/
@[simp] def forg (ρ : Rh) (is : List Nat) : Rh := is.foldl (fun ρ i => ρ.set i none) ρ
theorem Cor.forg {H0 H : Hp} {Z O : List Addr} {σ : L2.St} : ∀ (is : List Nat) {ρ : Rh}, Cor K H0 Z O ρ σ H → Cor K H0 Z O (forg ρ is) σ H
  | [], _, c => c
  | i :: is, _, c => Cor.forg is (c.forget i)
@[simp] def forgO (is : List Nat) : Out → Out
  | .nx ρ => .nx (forg ρ is)
  | .bk ρ => .bk (forg ρ is)
  | .ct ρ => .ct (forg ρ is)
  | .rt r => .rt r
  | .ex t => .ex t
def sFo (is : List Nat) (a : Rh → Option Out) : Rh → Option Out := fun ρ => (a ρ).bind fun o => some (forgO is o)
theorem sok_fo {t : TS} {a : Rh → Option Out} (is : List Nat) (ha : SOk K W t a) : SOk K W t (sFo is a) := fun H0 Z O ρ o σ H D e c q => by
  obtain ⟨o1, e1, e⟩ := bind_some e
  cases e
  refine ha H0 Z O ρ o1 σ H D e1 c ?_
  cases o1 with
  | nx ρ1 => exact fun O' σ' H' c' s => q O' σ' H' (c'.forg is) s
  | bk ρ1 => exact fun O' σ' H' c' s => q O' σ' H' (c'.forg is) s
  | ct ρ1 => exact fun O' σ' H' c' s => q O' σ' H' (c'.forg is) s
  | rt r => exact q
  | ex t => exact q
/-- forget ahead -/
@[simp] def sPre (is : List Nat) (a : Rh → Option Out) : Rh → Option Out := fun ρ => a (forg ρ is)
theorem sok_pre {t : TS} {a : Rh → Option Out} (is : List Nat) (ha : SOk K W t a) : SOk K W t (sPre is a) := fun H0 Z O ρ o σ H D e c q =>
  ha H0 Z O _ o σ H D e (c.forg is) q
def frz1 (ρ : Rh) (i : Nat) : Rh := match ρ[i]? with
  | some (some (.bo ds)) => ρ.set i (some (.sh (.list ds)))
  | _ => ρ
@[simp] def frzD (ρ : Rh) (is : List Nat) : Rh := is.foldl frz1 ρ
theorem Cor.frz {H0 H : Hp} {Z : List Addr} {σ : L2.St} : ∀ (is : List Nat) {O : List Addr} {ρ : Rh}, Cor K H0 Z O ρ σ H → ∃ O', Cor K H0 Z O' (frzD ρ is) σ H ∧ Same (off H O) (off H O')
  | [], O, _, c => ⟨O, c, Same.refl _⟩
  | i :: is, O, ρ, c => by
    have one : ∃ O', Cor K H0 Z O' (frz1 ρ i) σ H ∧ Same (off H O) (off H O') := by
      unfold frz1
      split
      · rename_i ds hi
        exact c.freeze hi
      · exact ⟨O, c, Same.refl _⟩
    obtain ⟨O1, c1, s1⟩ := one
    obtain ⟨O2, c2, s2⟩ := Cor.frz is c1
    exact ⟨O2, c2, s1.trans s2⟩
/-- share ahead -/
@[simp] def sFrz (is : List Nat) (a : Rh → Option Out) : Rh → Option Out := fun ρ => a (frzD ρ is)
theorem sok_frz {t : TS} {a : Rh → Option Out} (is : List Nat) (ha : SOk K W t a) : SOk K W t (sFrz is a) := fun H0 Z O ρ o σ H D e c q => by
  obtain ⟨O', c', s⟩ := c.frz is
  exact ha H0 Z O' _ o σ H D e c' (q.step s)

/-! ### loops -/
def forD (g : PyData → Rh → Option Rh) (b : Rh → Option Out) : List PyData → Rh → Option Out
  | [], ρ => some (.nx ρ)
  | x :: xs, ρ => (g x ρ).bind fun ρ1 => (b ρ1).bind fun o => match o with
    | .nx ρ2 => forD g b xs ρ2
    | .ct ρ2 => forD g b xs ρ2
    | .bk ρ2 => some (.nx ρ2)
    | .rt r => some (.rt r)
    | .ex t => some (.ex t)
@[simp] def sFor (it : Rh → Option (List PyData)) (g : PyData → Rh → Option Rh) (b : Rh → Option Out) : Rh → Option Out := fun ρ => (it ρ).bind fun xs => forD g b xs ρ
theorem sok_for {wi : TI} {g : TG} {tb : TS} {S : List Nat} {it : Rh → Option (List PyData)} {gd : PyData → Rh → Option Rh} {b : Rh → Option Out} (hi : IOk K wi it) (hg : GOk K S g gd) (hb : SOk K W tb b) :
    SOk K W (tFor wi g tb) (sFor it gd b) := fun H0 Z O ρ o σ H D e c q => by
  obtain ⟨items, e1, e⟩ := bind_some e
  refine hi H0 Z O ρ items σ H _ e1 c fun J H1 s1 hit => ?_
  refine ⟨fun i m σ' H' => m = items.length - i ∧ i ≤ items.length ∧ ∃ O' ρ', Cor K H0 Z O' ρ' σ' H' ∧ Same (off H1 O) (off H' O') ∧ forD gd b (items.drop i) ρ' = some o,
    ⟨items.length, rfl, Nat.zero_le _, O, ρ, c.mono s1, Same.refl _, e⟩, fun i m σ' H' hW => ?_⟩
  obtain ⟨rfl, hil, O', ρ', c', sm, hr⟩ := hW
  obtain ⟨hgo, hstop⟩ := hit O' H' c'.bs sm
  have q1 := q.step (off_same s1)
  by_cases hlt : i < items.length
  · right
    obtain ⟨d, hd⟩ : ∃ d, items[i]? = some d := ⟨_, List.getElem?_eq_getElem hlt⟩
    obtain ⟨g1, g2⟩ := hgo i d hd
    rw [drop_at hd] at hr
    obtain ⟨ρ1, r1, hr⟩ := bind_some hr
    obtain ⟨o1, r2, hr⟩ := bind_some hr
    refine ⟨g1, fun σ2 H2 => i + 1 ≤ items.length ∧ ∃ O' ρ', Cor K H0 Z O' ρ' σ2 H2 ∧ Same (off H1 O) (off H2 O') ∧ forD gd b (items.drop (i + 1)) ρ' = some o,
      fun σ2 H2 h => ⟨items.length - (i + 1), by omega, rfl, h⟩, fun x H2 hy => ?_⟩
    obtain ⟨s2, dx⟩ := g2 x H2 hy
    refine hg H0 Z O' ρ' ρ1 σ' H2 x d _ r1 (c'.mono s2) dx fun σ3 c3 _ _ => hb H0 Z O' ρ1 o1 σ3 H2 _ r2 c3 ?_
    have sm2 := sm.trans (off_same s2)
    cases o1 with
    | nx ρ2 => exact fun O4 σ4 H4 c4 s4 => ⟨hlt, O4, ρ2, c4, sm2.trans s4, hr⟩
    | ct ρ2 => exact fun O4 σ4 H4 c4 s4 => ⟨hlt, O4, ρ2, c4, sm2.trans s4, hr⟩
    | bk ρ2 =>
      cases hr
      exact fun O4 σ4 H4 c4 s4 => q1 O4 σ4 H4 c4 (sm2.trans s4)
    | rt r =>
      cases hr
      exact q1
    | ex t =>
      cases hr
      exact q1
  · left
    have ei : i = items.length := by omega
    subst ei
    rw [List.drop_length] at hr
    cases hr
    exact ⟨hstop _ (Nat.le_refl _), q1 O' σ' H' c' sm⟩
def whileN (k : Rh → Option Bool) (b : Rh → Option Out) : Nat → Rh → Option Out
  | 0, _ => none
  | n + 1, ρ => (k ρ).bind fun x => if x = true then (b ρ).bind fun o => match o with
      | .nx ρ2 => whileN k b n ρ2
      | .ct ρ2 => whileN k b n ρ2
      | .bk ρ2 => some (.nx ρ2)
      | .rt r => some (.rt r)
      | .ex t => some (.ex t)
    else some (.nx ρ)
theorem whileN_mono {k : Rh → Option Bool} {b : Rh → Option Out} : ∀ {n m : Nat} {ρ : Rh} {o : Out}, whileN k b n ρ = some o → n ≤ m → whileN k b m ρ = some o
  | 0, _, _, _, h, _ => by cases h
  | n + 1, 0, _, _, _, hm => by omega
  | n + 1, m + 1, ρ, o, h, hm => by
    unfold whileN at h ⊢
    obtain ⟨x, e1, h⟩ := bind_some h
    rw [e1]
    show (if x = true then _ else _) = some o
    by_cases hx : x = true
    · rw [if_pos hx] at h ⊢
      obtain ⟨o1, e2, h⟩ := bind_some h
      rw [e2]
      cases o1 with
      | nx ρ2 => exact whileN_mono (n := n) h (by omega)
      | ct ρ2 => exact whileN_mono (n := n) h (by omega)
      | bk ρ2 => exact h
      | rt r => exact h
      | ex t => exact h
    · rw [if_neg hx] at h ⊢
      exact h
open Classical in
noncomputable def sWhile (k : Rh → Option Bool) (b : Rh → Option Out) : Rh → Option Out := fun ρ => if h : ∃ o n, whileN k b n ρ = some o then some h.choose else none
theorem sWhile_some {k : Rh → Option Bool} {b : Rh → Option Out} {ρ : Rh} {o : Out} (h : sWhile k b ρ = some o) : ∃ n, whileN k b n ρ = some o := by
  unfold sWhile at h
  by_cases hh : ∃ o n, whileN k b n ρ = some o
  · rw [dif_pos hh] at h
    cases h
    exact hh.choose_spec
  · rw [dif_neg hh] at h
    cases h
theorem sWhile_of {k : Rh → Option Bool} {b : Rh → Option Out} {ρ : Rh} {o : Out} {n : Nat} (h : whileN k b n ρ = some o) : sWhile k b ρ = some o := by
  have hh : ∃ o n, whileN k b n ρ = some o := ⟨o, n, h⟩
  unfold sWhile
  rw [dif_pos hh]
  obtain ⟨m, hm⟩ := hh.choose_spec
  have h1 := whileN_mono h (Nat.le_max_left n m)
  have h2 := whileN_mono hm (Nat.le_max_right n m)
  rw [h1] at h2
  exact h2.symm
theorem sok_while {tc : TT} {tb : TS} {k : Rh → Option Bool} {b : Rh → Option Out} (hk : TOk K tc k) (hb : SOk K W tb b) : SOk K W (tWhile tc tb) (sWhile k b) := fun H0 Z O ρ o σ H D e c q => by
  obtain ⟨n, hn⟩ := sWhile_some e
  refine ⟨fun m σ' H' => ∃ O' ρ', Cor K H0 Z O' ρ' σ' H' ∧ Same (off H O) (off H' O') ∧ whileN k b m ρ' = some o, ⟨n, O, ρ, c, Same.refl _, hn⟩, fun m σ' H' hW => ?_⟩
  obtain ⟨O', ρ', c', sm, hr⟩ := hW
  cases m with
  | zero => cases hr
  | succ m =>
    obtain ⟨x, r1, hr⟩ := bind_some hr
    refine hk H0 Z O' ρ' x σ' H' _ r1 c' fun H1 s1 => ?_
    have sm1 := sm.trans (off_same s1)
    by_cases hx : x = true
    · rw [if_pos hx] at hr ⊢
      obtain ⟨o1, r2, hr⟩ := bind_some hr
      refine ⟨fun σ2 H2 => ∃ O' ρ', Cor K H0 Z O' ρ' σ2 H2 ∧ Same (off H O) (off H2 O') ∧ whileN k b m ρ' = some o, fun σ2 H2 h => ⟨m, Nat.lt_succ_self m, h⟩, ?_⟩
      refine hb H0 Z O' ρ' o1 σ' H1 _ r2 (c'.mono s1) ?_
      cases o1 with
      | nx ρ2 => exact fun O4 σ4 H4 c4 s4 => ⟨O4, ρ2, c4, sm1.trans s4, hr⟩
      | ct ρ2 => exact fun O4 σ4 H4 c4 s4 => ⟨O4, ρ2, c4, sm1.trans s4, hr⟩
      | bk ρ2 =>
        cases hr
        exact fun O4 σ4 H4 c4 s4 => q O4 σ4 H4 c4 (sm1.trans s4)
      | rt r =>
        cases hr
        exact q
      | ex t =>
        cases hr
        exact q
    · rw [if_neg hx] at hr ⊢
      cases hr
      exact q O' σ' H1 (c'.mono s1) sm1

/-! ### a def -/
def fnD (n N : Nat) (body : Rh → Option Out) (ds : List PyData) : Option Res := if ds.length = n then match body (ds.map (fun d => some (.sh d)) ++ List.replicate (N - n) none) with
    | some (.rt r) => some r
    | some (.nx _) => some (.sh .none)
    | _ => none
  else none
theorem start_cor {H : Hp} {Z : List Addr} {n N : Nat} {vs : List V} {ds : List PyData} {Nm : List Str} (hz : ∀ p ∈ Z, ∃ o, H p = some o) (hd : DpAll K (off H Z) vs ds) (hn : ds.length = n) (hN : Nm.length = N) :
    Cor K H Z Z (ds.map (fun d => some (.sh d)) ++ List.replicate (N - n) none) (L2.start Nm vs) H := by
  have hl := dpa_len hd
  have fro : ∀ (i : Nat) (r : Res), (ds.map (fun d => some (Res.sh d)) ++ List.replicate (N - n) none)[i]? = some (some r) → ∃ d, ds[i]? = some d ∧ r = .sh d := fun i r h => by
    by_cases hi : i < ds.length
    · rw [List.getElem?_append_left (by rw [List.length_map]; exact hi), List.getElem?_map, List.getElem?_eq_getElem hi] at h
      cases h
      exact ⟨_, List.getElem?_eq_getElem hi, rfl⟩
    · rw [List.getElem?_append_right (by rw [List.length_map]; omega)] at h
      have := List.mem_of_getElem? h
      have := (List.mem_replicate.mp this).2
      cases this
  refine ⟨⟨Same.refl H, fun _ h => h, hz, hz⟩, fun i r h => ?_, fun i j xs ys p _ hi _ _ _ => ?_, ?_⟩
  · obtain ⟨d, e, rfl⟩ := fro i r h
    obtain ⟨v, e1, e2⟩ := dpa_get hd e
    refine ⟨v, ?_, e2, fun _ z => by cases z⟩
    have hi := (List.getElem?_eq_some_iff.mp e1).1
    unfold L2.start
    rw [List.getElem?_append_left (by rw [List.length_map]; exact hi), List.getElem?_map, e1]
    rfl
  · obtain ⟨d, _, z⟩ := fro i _ hi
    cases z
  · unfold L2.start
    rw [List.length_append, List.length_append, List.length_map, List.length_map, List.length_replicate, List.length_replicate, hl, hN, hn]
/-- THE RULE of a def of data -/
theorem fnG_data {P : Program} {w : World} {mg : Str → Option Value} {base : Heap} {x qual : Str} {st : Stmt} {f : Addr} {fd : FuncData} {Nm ps : List Str} {k n N : Nat} {body : Rh → Option Out}
    (F : Fun K x qual st f fd) (S : FnScope Nm ps (defScope st)) (hn : ps.length = n) (hN : Nm.length = N)
    (h : ∀ (cdv : Value) (A : Around) (outer : List PySem.Env) (s : Shared) (H : Hp), Room k (A.deeper (envOfC qual (defScope st) s.heap.objs.size f cdv)) → A.guards = some [] →
      ∃ t, PSs (cxOf CX0 P w K mg base Nm qual (defScope st) f cdv A outer s H E0).nox (defBody st) t ∧ SOk K (fun _ _ => False) t body) : FnG P w K mg base (k + 1) f fd ps (spD K n (fnD n N body)) := by
  refine fnG_of F S (fun vs H Q E hs => hs.1.trans hn.symm) fun cdv A outer s H vs Q hr hg hs => ?_
  obtain ⟨t, ht, hb⟩ := h cdv A outer s H hr hg
  obtain ⟨hv, ds, r, Z, hz, hd, hgd, q⟩ := hs
  refine ⟨t, ht, ?_⟩
  unfold fnD at hgd
  by_cases hl : ds.length = n
  case neg => rw [if_neg hl] at hgd; cases hgd
  rw [if_pos hl] at hgd
  have c := start_cor (Nm := Nm) hz hd hl hN
  split at hgd
  · rename_i r' hb'
    cases hgd
    exact hb H Z Z _ _ _ H _ hb' c fun v H' s' v' => q v H' s' v'
  · rename_i ρ' hb'
    cases hgd
    exact hb H Z Z _ _ _ H _ hb' c fun O' σ' H' c' _ => q _ H' c'.bs.same .none
  · cases hgd
end
end F3
namespace F3
open PySem L2
theorem bt_int : bootBuiltins "int" = some (.type "int") := by decide +kernel
theorem bt_str : bootBuiltins "str" = some (.type "str") := by decide +kernel
theorem bt_bool : bootBuiltins "bool" = some (.type "bool") := by decide +kernel
theorem bt_list : bootBuiltins "list" = some (.type "list") := by decide +kernel
theorem bt_tuple : bootBuiltins "tuple" = some (.type "tuple") := by decide +kernel
theorem bt_len : bootBuiltins "len" = some (.builtin "len") := by decide +kernel
theorem bt_abs : bootBuiltins "abs" = some (.builtin "abs") := by decide +kernel
theorem bt_max : bootBuiltins "max" = some (.builtin "max") := by decide +kernel
theorem bt_min : bootBuiltins "min" = some (.builtin "min") := by decide +kernel
theorem bt_sum : bootBuiltins "sum" = some (.builtin "sum") := by decide +kernel
theorem bt_repr : bootBuiltins "repr" = some (.builtin "repr") := by decide +kernel
theorem bt_isinstance : bootBuiltins "isinstance" = some (.builtin "isinstance") := by decide +kernel
end F3
namespace F3
open PySem L2
abbrev rSubI : R2 := rI0 fun i j => .int (i - j)
abbrev rMulI : R2 := rI CMulW fun i j => .int (i * j)
abbrev rModI : R2 := rI (fun _ j => j ≠ 0) fun i j => .int (i.fmod j)
abbrev rPowI : R2 := rI CPow fun i j => .int (i ^ j.toNat)
abbrev rLtI : R2 := rI0 fun i j => .bl (decide (i < j))
abbrev rLeI : R2 := rI0 fun i j => .bl (decide (i ≤ j))
abbrev rGtI : R2 := rI0 fun i j => .bl (decide (j < i))
abbrev rGeI : R2 := rI0 fun i j => .bl (decide (j ≤ i))
abbrev rNegI : V → Hp → VK → Prop := rU fun i => .int (-i)
abbrev rInt1 : List V → Hp → VK → Prop := fun xs H Q => (∃ i, xs = [.int i] ∧ Q (.int i) H) ∨ ∃ k, xs = [.bl k] ∧ Q (.int (if k then 1 else 0)) H
abbrev rAbsI : List V → Hp → VK → Prop := fun xs H Q => ∃ i, xs = [.int i] ∧ Q (.int (if i < 0 then -i else i)) H
abbrev rListOf (K : PySem.W.Frag) : List V → Hp → VK → Prop := fun xs H Q => ∃ p ys, xs = [.ref p] ∧ (SqL K H p ys ∨ SqT K H p ys) ∧ ∀ l, H l = none → Q (.ref l) (upd H l (.lst ys))
abbrev rTupOf (K : PySem.W.Frag) : List V → Hp → VK → Prop := fun xs H Q => ∃ p ys, xs = [.ref p] ∧ ((SqL K H p ys ∧ ∀ l, H l = none → Q (.ref l) (upd H l (.tup ys))) ∨ (SqT K H p ys ∧ Q (.ref p) H))
end F3
namespace F3
open PySem L2
theorem ru66 {k : Nat} {A : Around} (r : Room k A) : A.units + 66 < cLine := by have := r.un; omega
theorem ru65 {k : Nat} {A : Around} (r : Room k A) : A.units + 65 < cLine := by have := r.un; omega
end F3
namespace F3
open PySem L2
/-! ### data, for simp -/
@[simp] theorem sp_none : SeqAt.shaped .none = true := by simp [SeqAt.shaped, PyData.canLay0, PyData.depth]
@[simp] theorem sp_bool (b : Bool) : SeqAt.shaped (.bool b) = true := by simp [SeqAt.shaped, PyData.canLay0, PyData.depth]
@[simp] theorem sp_int (i : Int) : SeqAt.shaped (.int i) = true := by simp [SeqAt.shaped, PyData.canLay0, PyData.depth]
@[simp] theorem eqD_int (a b : Int) : eqD (.int a) (.int b) = some (a == b) := by simp [eqD, PyData.eqv]
@[simp] theorem eqD_str (a b : Str) : eqD (.str a) (.str b) = some (decide (a = b)) := rfl
@[simp] theorem eqD_boolI (a : Bool) (b : Int) : eqD (.bool a) (.int b) = some ((if a then 1 else 0) == b) := by simp [eqD, PyData.eqv]
/-- ints alone in a list -/
theorem lay_ints : ∀ ns : List Int, PyData.canLayAll0 (ns.map .int) = true
  | [] => by simp [PyData.canLayAll0]
  | n :: ns => by simp [PyData.canLayAll0, PyData.canLay0, lay_ints ns]
theorem dep_ints : ∀ ns : List Int, PyData.depthAll (ns.map .int) = 0
  | [] => by simp [PyData.depthAll]
  | n :: ns => by simp [PyData.depthAll, PyData.depth, dep_ints ns]
theorem eqv_ints : ∀ (ns ms : List Int), PyData.eqvAll (ns.map .int) (ms.map .int) = decide (ns = ms)
  | [], [] => by simp [PyData.eqvAll]
  | [], _ :: _ => by simp [PyData.eqvAll]
  | _ :: _, [] => by simp [PyData.eqvAll]
  | n :: ns, m :: ms => by
    simp only [List.map_cons, PyData.eqvAll, PyData.eqv, eqv_ints ns ms]
    by_cases h : n = m <;> by_cases g : ns = ms <;> simp [h, g]
@[simp] theorem sp_listInts (ns : List Int) : SeqAt.shaped (.list (ns.map .int)) = true := by simp [SeqAt.shaped, PyData.canLay0, PyData.depth, lay_ints, dep_ints]
@[simp] theorem sp_tupInts (ns : List Int) : SeqAt.shaped (.tuple (ns.map .int)) = true := by simp [SeqAt.shaped, PyData.canLay0, PyData.depth, lay_ints, dep_ints]
@[simp] theorem eqD_listInts (ns ms : List Int) : eqD (.list (ns.map .int)) (.list (ms.map .int)) = some (decide (ns = ms)) := by simp [eqD, PyData.eqv, eqv_ints]
@[simp] theorem sp_lst (ds : List PyData) : SeqAt.shaped (.list ds) = (PyData.canLayAll0 ds && decide (PyData.depthAll ds + 1 ≤ 64)) := by simp [SeqAt.shaped, PyData.canLay0, PyData.depth]
@[simp] theorem sp_tup (ds : List PyData) : SeqAt.shaped (.tuple ds) = (PyData.canLayAll0 ds && decide (PyData.depthAll ds + 1 ≤ 64)) := by simp [SeqAt.shaped, PyData.canLay0, PyData.depth]
end F3
set_option maxRecDepth 100000
/-! F3: equations by which simp runs the data level -/
namespace F3
open PySem PySem.Spec PyProof.Rows L2
section
variable {ρ : Rh} {a b : Rh → Option Out} {r : Res} {ds es : List PyData} {i j : Int} {x y : Str} {k n m : Nat}
@[simp] theorem lst_l : Res.lst (.sh (.list ds)) = some ds := rfl
@[simp] theorem lst_f : Res.lst (.fr ds) = some ds := rfl
@[simp] theorem lst_b : Res.lst (.bo ds) = some ds := rfl
@[simp] theorem lst_t : Res.lst (.sh (.tuple ds)) = none := rfl
@[simp] theorem lst_i : Res.lst (.sh (.int i)) = none := rfl
@[simp] theorem lst_s : Res.lst (.sh (.str x)) = none := rfl
@[simp] theorem tup_t : Res.tup (.sh (.tuple ds)) = some ds := rfl
@[simp] theorem tup_l : Res.tup (.sh (.list ds)) = none := rfl
@[simp] theorem tup_f : Res.tup (.fr ds) = none := rfl
@[simp] theorem tup_b : Res.tup (.bo ds) = none := rfl
@[simp] theorem seq_l : Res.seq (.sh (.list ds)) = some ds := rfl
@[simp] theorem seq_t : Res.seq (.sh (.tuple ds)) = some ds := rfl
@[simp] theorem seq_f : Res.seq (.fr ds) = some ds := rfl
@[simp] theorem seq_b : Res.seq (.bo ds) = some ds := rfl
@[simp] theorem seq_i : Res.seq (.sh (.int i)) = none := rfl
@[simp] theorem seq_s : Res.seq (.sh (.str x)) = none := rfl
@[simp] theorem toi_i : Res.toi (.sh (.int i)) = some i := rfl
@[simp] theorem tos_s : Res.tos (.sh (.str x)) = some x := rfl
@[simp] theorem tos_i : Res.tos (.sh (.int i)) = none := rfl
@[simp] theorem tos_l : Res.tos (.sh (.list ds)) = none := rfl
@[simp] theorem tos_t : Res.tos (.sh (.tuple ds)) = none := rfl
@[simp] theorem tos_f : Res.tos (.fr ds) = none := rfl
@[simp] theorem tos_b : Res.tos (.bo ds) = none := rfl
@[simp] theorem tob_b {q : Bool} : Res.tob (.sh (.bool q)) = some q := rfl
@[simp] theorem isn_n : Res.isNone (.sh .none) = true := rfl
@[simp] theorem isn_i : Res.isNone (.sh (.int i)) = false := rfl
@[simp] theorem isn_t : Res.isNone (.sh (.tuple ds)) = false := rfl
@[simp] theorem isn_l : Res.isNone (.sh (.list ds)) = false := rfl
@[simp] theorem isn_b {q : Bool} : Res.isNone (.sh (.bool q)) = false := rfl
@[simp] theorem isn_s : Res.isNone (.sh (.str x)) = false := rfl
@[simp] theorem isn_f : Res.isNone (.fr ds) = false := rfl
@[simp] theorem isn_bo : Res.isNone (.bo ds) = false := rfl
@[simp] theorem shr_s {d : PyData} : Res.shr (.sh d) = some d := rfl
@[simp] theorem shr_f : Res.shr (.fr ds) = some (.list ds) := rfl
@[simp] theorem shrs_n : shrs [] = some [] := rfl
@[simp] theorem shrs_c {d : PyData} {rs : List Res} : shrs (.sh d :: rs) = (shrs rs).bind fun ds => some (d :: ds) := by
  show (match Res.shr (.sh d), shrs rs with | some d, some ds => some (d :: ds) | _, _ => none) = _
  cases shrs rs <;> rfl
@[simp] theorem shrs_f {rs : List Res} : shrs (.fr ds :: rs) = (shrs rs).bind fun es => some (.list ds :: es) := by
  show (match Res.shr (.fr ds), shrs rs with | some d, some ds => some (d :: ds) | _, _ => none) = _
  cases shrs rs <;> rfl
@[simp] theorem toIs_n : toIs [] = some [] := rfl
@[simp] theorem toIs_c {rs : List Res} : toIs (.sh (.int i) :: rs) = (toIs rs).bind fun is => some (i :: is) := by
  show (match Res.toi (.sh (.int i)), toIs rs with | some d, some ds => some (d :: ds) | _, _ => none) = _
  cases toIs rs <;> rfl
@[simp] theorem toInts_m {ns : List Int} : toInts (ns.map .int) = some ns := toInts_map ns
@[simp] theorem toInts_c : toInts (.int i :: ds) = (toInts ds).bind fun is => some (i :: is) := by
  show (match toInts ds with | some is => some (i :: is) | none => none) = _
  cases toInts ds <;> rfl
@[simp] theorem toInts_n : toInts [] = some [] := rfl
/-! variables -/
@[simp] theorem eVar_eq : eVar k ρ = (ρ[k]?).bind id := by
  unfold eVar
  cases ρ[k]? <;> rfl
@[simp] theorem retR_s {d : PyData} : retR (.sh d) = .sh d := rfl
@[simp] theorem retR_f : retR (.fr ds) = .fr ds := rfl
@[simp] theorem retR_b : retR (.bo ds) = .fr ds := rfl
/-! operators -/
@[simp] theorem addR_ii : addR (.sh (.int i)) (.sh (.int j)) = some (.sh (.int (i + j))) := rfl
@[simp] theorem addR_ss : addR (.sh (.str x)) (.sh (.str y)) = if x.length + y.length ≤ LIM then some (.sh (.str (x ++ y))) else none := rfl
@[simp] theorem addR_tt : addR (.sh (.tuple ds)) (.sh (.tuple es)) = if ds.length + es.length ≤ LIM then some (.sh (.tuple (ds ++ es))) else none := rfl
@[simp] theorem addR_ll : addR (.sh (.list ds)) (.sh (.list es)) = if ds.length + es.length ≤ LIM then some (.fr (ds ++ es)) else none := rfl
@[simp] theorem addR_lf : addR (.sh (.list ds)) (.fr es) = if ds.length + es.length ≤ LIM then some (.fr (ds ++ es)) else none := rfl
@[simp] theorem addR_lb : addR (.sh (.list ds)) (.bo es) = if ds.length + es.length ≤ LIM then some (.fr (ds ++ es)) else none := rfl
@[simp] theorem addR_fl : addR (.fr ds) (.sh (.list es)) = if ds.length + es.length ≤ LIM then some (.fr (ds ++ es)) else none := rfl
@[simp] theorem addR_ff : addR (.fr ds) (.fr es) = if ds.length + es.length ≤ LIM then some (.fr (ds ++ es)) else none := rfl
@[simp] theorem addR_fb : addR (.fr ds) (.bo es) = if ds.length + es.length ≤ LIM then some (.fr (ds ++ es)) else none := rfl
@[simp] theorem addR_bl : addR (.bo ds) (.sh (.list es)) = if ds.length + es.length ≤ LIM then some (.fr (ds ++ es)) else none := rfl
@[simp] theorem addR_bf : addR (.bo ds) (.fr es) = if ds.length + es.length ≤ LIM then some (.fr (ds ++ es)) else none := rfl
@[simp] theorem addR_bb : addR (.bo ds) (.bo es) = if ds.length + es.length ≤ LIM then some (.fr (ds ++ es)) else none := rfl
@[simp] theorem subR_ii : subR (.sh (.int i)) (.sh (.int j)) = some (.sh (.int (i - j))) := rfl
@[simp] theorem mulI_ii (h : mulOk i j) : mulI (.sh (.int i)) (.sh (.int j)) = some (.sh (.int (i * j))) := by
  show (match (if mulOk i j then some (PyData.int (i * j)) else none) with | some d => some (Res.sh d) | none => none) = _
  rw [if_pos h]
@[simp] theorem fdivR_ii (h : divOk j) : fdivR (.sh (.int i)) (.sh (.int j)) = some (.sh (.int (i / j))) := by
  show (match (if divOk j then some (PyData.int (i / j)) else _) with | some d => some (Res.sh d) | none => none) = _
  rw [if_pos h]
@[simp] theorem modR_ii (h : 0 < j) : modR (.sh (.int i)) (.sh (.int j)) = some (.sh (.int (i % j))) := by
  show (match (if 0 < j then some (PyData.int (i % j)) else _) with | some d => some (Res.sh d) | none => none) = _
  rw [if_pos h]
@[simp] theorem powR_ii (h0 : 0 ≤ j) (h1 : j ≤ 1000) (h2 : i.natAbs < 1000000000000) : powR (.sh (.int i)) (.sh (.int j)) = some (.sh (.int (i ^ j.toNat))) := by
  show (match (if 0 ≤ j ∧ j ≤ 1000000 ∧ i.natAbs < 2 ^ 64 then some (PyData.int (i ^ j.toNat)) else _) with | some d => some (Res.sh d) | none => none) = _
  rw [if_pos ⟨h0, by omega, by omega⟩]
@[simp] theorem negR_i : negR (.sh (.int i)) = some (.sh (.int (-i))) := rfl
@[simp] theorem ltR_ii : ltR (.sh (.int i)) (.sh (.int j)) = some (.sh (.bool (decide (i < j)))) := rfl
@[simp] theorem leR_ii : leR (.sh (.int i)) (.sh (.int j)) = some (.sh (.bool (decide (i ≤ j)))) := rfl
@[simp] theorem gtR_ii : gtR (.sh (.int i)) (.sh (.int j)) = some (.sh (.bool (decide (j < i)))) := rfl
@[simp] theorem geR_ii : geR (.sh (.int i)) (.sh (.int j)) = some (.sh (.bool (decide (j ≤ i)))) := rfl
@[simp] theorem eqR_eq {p q : Res} : eqR p q = (eqD p.dat q.dat).bind fun k => some (.sh (.bool k)) := by
  unfold eqR
  cases eqD p.dat q.dat <;> rfl
@[simp] theorem neR_eq {p q : Res} : neR p q = (eqD p.dat q.dat).bind fun k => some (.sh (.bool (!k))) := by
  unfold neR
  cases eqD p.dat q.dat <;> rfl
@[simp] theorem isR_none {p : Res} {neg : Bool} : isR neg p (.sh .none) = some (.sh (.bool (neg != p.isNone))) := rfl
@[simp] theorem isR_bool {p q neg : Bool} : isR neg (.sh (.bool p)) (.sh (.bool q)) = some (.sh (.bool (neg != (p == q)))) := rfl
/-! built-ins -/
@[simp] theorem on1_1 {g : Res → Option Res} : on1 g [r] = g r := rfl
@[simp] theorem lenR_l : lenR (.sh (.list ds)) = some (.sh (.int ds.length)) := rfl
@[simp] theorem lenR_t : lenR (.sh (.tuple ds)) = some (.sh (.int ds.length)) := rfl
@[simp] theorem lenR_f : lenR (.fr ds) = some (.sh (.int ds.length)) := rfl
@[simp] theorem lenR_b : lenR (.bo ds) = some (.sh (.int ds.length)) := rfl
@[simp] theorem lenR_s : lenR (.sh (.str x)) = if x.length ≤ LIM then some (.sh (.int x.length)) else none := rfl
@[simp] theorem absR_i : absR (.sh (.int i)) = some (.sh (.int (if i < 0 then -i else i))) := rfl
@[simp] theorem intR_i : intR (.sh (.int i)) = some (.sh (.int i)) := rfl
@[simp] theorem intR_b {q : Bool} : intR (.sh (.bool q)) = some (.sh (.int (if q then 1 else 0))) := rfl
@[simp] theorem strR_i (h : i.natAbs.log2 < 1920) : strR (.sh (.int i)) = some (.sh (.str (toString i))) := if_pos h
@[simp] theorem listR_l : listR (.sh (.list ds)) = some (.fr ds) := rfl
@[simp] theorem listR_t : listR (.sh (.tuple ds)) = some (.fr ds) := rfl
@[simp] theorem listR_f : listR (.fr ds) = some (.fr ds) := rfl
@[simp] theorem listR_b : listR (.bo ds) = some (.fr ds) := rfl
@[simp] theorem tupR_l : tupR (.sh (.list ds)) = some (.sh (.tuple ds)) := rfl
@[simp] theorem tupR_t : tupR (.sh (.tuple ds)) = some (.sh (.tuple ds)) := rfl
@[simp] theorem tupR_f : tupR (.fr ds) = some (.sh (.tuple ds)) := rfl
@[simp] theorem tupR_b : tupR (.bo ds) = some (.sh (.tuple ds)) := rfl
@[simp] theorem slR_t {lo hi : Option Int} : slR (.sh (.tuple ds)) lo hi = some (.sh (.tuple (cutD ds lo hi))) := rfl
@[simp] theorem slR_l {lo hi : Option Int} : slR (.sh (.list ds)) lo hi = some (.fr (cutD ds lo hi)) := rfl
@[simp] theorem slR_f {lo hi : Option Int} : slR (.fr ds) lo hi = some (.fr (cutD ds lo hi)) := rfl
@[simp] theorem slR_b {lo hi : Option Int} : slR (.bo ds) lo hi = some (.fr (cutD ds lo hi)) := rfl
@[simp] theorem eSl3_eq {e : Rh → Option Res} {lo hi st : Po} : eSl3 e lo hi st ρ = (e ρ).bind fun x => (lo ρ).bind fun l => (hi ρ).bind fun h => (st ρ).bind fun k => x.lst.bind fun ds => if k ≠ some 0 then some (.fr (pickD ds l h k)) else none := by
  unfold eSl3
  congr
  funext x
  congr
  funext l
  congr
  funext h
  congr
  funext k
  cases x.lst <;> rfl
@[simp] theorem ixR_t : ixR (.sh (.tuple ds)) (.sh (.int i)) = (atI ds i).bind fun d => some (.sh d) := by
  show (match atI ds i with | some d => some (Res.sh d) | none => none) = _
  cases atI ds i <;> rfl
@[simp] theorem ixR_l : ixR (.sh (.list ds)) (.sh (.int i)) = (atI ds i).bind fun d => some (.sh d) := by
  show (match atI ds i with | some d => some (Res.sh d) | none => none) = _
  cases atI ds i <;> rfl
@[simp] theorem ixR_f : ixR (.fr ds) (.sh (.int i)) = (atI ds i).bind fun d => some (.sh d) := by
  show (match atI ds i with | some d => some (Res.sh d) | none => none) = _
  cases atI ds i <;> rfl
@[simp] theorem ixR_b : ixR (.bo ds) (.sh (.int i)) = (atI ds i).bind fun d => some (.sh d) := by
  show (match atI ds i with | some d => some (Res.sh d) | none => none) = _
  cases atI ds i <;> rfl
theorem atI_nn {α : Type} {xs : List α} (h : 0 ≤ i) : atI xs i = xs[i.toNat]? := by
  unfold atI ixN
  rw [if_pos h]
  by_cases g : i < xs.length
  · rw [if_pos g]; rfl
  · rw [if_neg g, List.getElem?_eq_none (by omega)]; rfl
@[simp] theorem atI_0 {α : Type} {xs : List α} : atI xs 0 = xs[0]? := atI_nn (by decide)
@[simp] theorem atI_1 {α : Type} {xs : List α} : atI xs 1 = xs[1]? := atI_nn (by decide)
@[simp] theorem atI_2 {α : Type} {xs : List α} : atI xs 2 = xs[2]? := atI_nn (by decide)
@[simp] theorem atI_3 {α : Type} {xs : List α} : atI xs 3 = xs[3]? := atI_nn (by decide)
@[simp] theorem atI_4 {α : Type} {xs : List α} : atI xs 4 = xs[4]? := atI_nn (by decide)
@[simp] theorem atI_5 {α : Type} {xs : List α} : atI xs 5 = xs[5]? := atI_nn (by decide)
@[simp] theorem atI_nat' {α : Type} {xs : List α} : atI xs (k : Int) = xs[k]? := by rw [atI_nn (by omega)]; simp
@[simp] theorem atI_m1 {α : Type} {xs : List α} : atI xs (-1) = xs[xs.length - 1]? := by
  unfold atI ixN
  rw [if_neg (by decide)]
  by_cases g : -(xs.length : Int) ≤ -1
  · rw [if_pos g]
    show xs[(-1 + (xs.length : Int)).toNat]? = _
    congr 1
    omega
  · rw [if_neg g]
    have e : xs.length = 0 := by omega
    rw [List.getElem?_eq_none (by omega)]
    rfl
/-! kinds -/
@[simp] theorem isK_i : ∀ {k : Kd}, isK k (.int i) = decide (k = .int) := fun {k} => by cases k <;> rfl
@[simp] theorem isK_l : ∀ {k : Kd}, isK k (.list ds) = decide (k = .list) := fun {k} => by cases k <;> rfl
@[simp] theorem isK_t : ∀ {k : Kd}, isK k (.tuple ds) = decide (k = .tuple) := fun {k} => by cases k <;> rfl
@[simp] theorem isK_s : ∀ {k : Kd}, isK k (.str x) = decide (k = .str) := fun {k} => by cases k <;> rfl
@[simp] theorem isK_n : ∀ {k : Kd}, isK k .none = false := fun {k} => by cases k <;> rfl
@[simp] theorem isK_b : ∀ {k : Kd} {q : Bool}, isK k (.bool q) = (decide (k = .int) || decide (k = .bool)) := fun {k} => by cases k <;> intro q <;> rfl
@[simp] theorem isK_d : ∀ {k : Kd} {kvs : List (PyData × PyData)}, isK k (.dict kvs) = false := fun {k} => by cases k <;> intro kvs <;> rfl
/-! what is walked, targets -/
@[simp] theorem itSeq_eq {e : Rh → Option Res} : itSeq e ρ = (e ρ).bind fun r => match r with
  | .sh (.list ds) => some ds
  | .sh (.tuple ds) => some ds
  | .fr ds => some ds
  | _ => none := rfl
@[simp] theorem rngD_1 (h : rOk j) : rngD [j] = some (rangeD 0 1 j.toNat) := by
  rw [rngD_eq]
  exact if_pos h
@[simp] theorem rngD_2 (h : rOk i) (g : rOk j) : rngD [i, j] = some (rangeD i 1 (j - i).toNat) := by
  rw [rngD_eq]
  exact if_pos ⟨h, g⟩
@[simp] theorem gsN_n : gsN [] ρ = some ρ := rfl
@[simp] theorem gsC_c {f : PyData → Rh → Option Rh} {fs : List PyData → Rh → Option Rh} {d : PyData} : gsC f fs (d :: ds) ρ = (f d ρ).bind (fs ds) := rfl
@[simp] theorem gTp_t {fs : List PyData → Rh → Option Rh} : gTp fs (.tuple ds) ρ = fs ds ρ := rfl
/-! statements -/
def seqK (b : Rh → Option Out) : Out → Option Out
  | .nx ρ' => b ρ'
  | o => some o
@[simp] theorem sSeq_eq : sSeq a b ρ = (a ρ).bind (seqK b) := by
  unfold sSeq
  congr
@[simp] theorem seqK_n : seqK b (.nx ρ) = b ρ := rfl
@[simp] theorem seqK_x {t : Str} : seqK b (.ex t) = some (.ex t) := rfl
@[simp] theorem seqK_r : seqK b (.rt r) = some (.rt r) := rfl
@[simp] theorem seqK_b : seqK b (.bk ρ) = some (.bk ρ) := rfl
@[simp] theorem seqK_c : seqK b (.ct ρ) = some (.ct ρ) := rfl
@[simp] theorem putR_s {d : PyData} : putR ρ k (.sh d) = some (ρ.set k (some (.sh d))) := rfl
@[simp] theorem putR_f : putR ρ k (.fr ds) = some (ρ.set k (some (.bo ds))) := rfl
@[simp] theorem sPar_eq {as : Rh → Option (List Res)} : sPar n m as ρ = (as ρ).bind fun rs => (shrs rs).bind fun ds => match ds with
  | [x, y] => some (.nx ((ρ.set n (some (.sh x))).set m (some (.sh y))))
  | _ => none := rfl
@[simp] theorem sFo_eq {is : List Nat} : sFo is a ρ = (a ρ).bind fun o => some (forgO is o) := rfl
theorem sApp_eq {e : Rh → Option Res} (h : ρ[k]? = some (some (.bo ds))) : sApp k e ρ = (e ρ).bind fun r => r.shr.bind fun d => if ds.length < LIM then some (.nx (ρ.set k (some (.bo (ds ++ [d]))))) else none := by
  unfold sApp
  rw [h]
theorem sPop_eq (h : ρ[k]? = some (some (.bo ds))) : sPop k ρ = if ds ≠ [] then some (.nx (ρ.set k (some (.bo ds.dropLast)))) else none := by
  unfold sPop
  rw [h]
theorem sPut_eq {e f : Rh → Option Res} (h : ρ[k]? = some (some (.bo ds))) : sPut k f e ρ = (e ρ).bind fun r => r.shr.bind fun d => (f ρ).bind fun x => x.toi.bind fun n => (ixN ds.length n).bind fun j => some (.nx (ρ.set k (some (.bo (ds.set j d))))) := by
  unfold sPut
  congr
  funext r
  congr
  funext d
  rw [h]
  simp only
  congr
  funext x
  cases x.toi with
  | none => rfl
  | some n =>
    simp only [Option.bind_some]
    cases ixN ds.length n <;> rfl
@[simp] theorem frz1_b (h : ρ[k]? = some (some (.bo ds))) : frz1 ρ k = ρ.set k (some (.sh (.list ds))) := by
  unfold frz1
  rw [h]
@[simp] theorem frz1_s {d : PyData} (h : ρ[k]? = some (some (.sh d))) : frz1 ρ k = ρ := by
  unfold frz1
  rw [h]
/-- a def's end -/
def finD : Option Out → Option Res
  | some (.rt r) => some r
  | some (.nx _) => some (.sh .none)
  | _ => none
@[simp] theorem finD_r : finD (some (.rt r)) = some r := rfl
@[simp] theorem finD_n : finD (some (.nx ρ)) = some (.sh .none) := rfl
theorem fnD_eq (h : ds.length = n) : fnD n m a ds = finD (a (ds.map (fun d => some (.sh d)) ++ List.replicate (m - n) none)) := by
  unfold fnD
  rw [if_pos h]
  rfl
@[simp] theorem fnD_1 {p : PyData} : fnD 1 m a [p] = finD (a ([some (.sh p)] ++ List.replicate (m - 1) none)) := fnD_eq rfl
@[simp] theorem fnD_2 {p q : PyData} : fnD 2 m a [p, q] = finD (a ([some (.sh p), some (.sh q)] ++ List.replicate (m - 2) none)) := fnD_eq rfl
@[simp] theorem fnD_3 {p q s : PyData} : fnD 3 m a [p, q, s] = finD (a ([some (.sh p), some (.sh q), some (.sh s)] ++ List.replicate (m - 3) none)) := fnD_eq rfl
@[simp] theorem fnD_4 {p q s t : PyData} : fnD 4 m a [p, q, s, t] = finD (a ([some (.sh p), some (.sh q), some (.sh s), some (.sh t)] ++ List.replicate (m - 4) none)) := fnD_eq rfl
@[simp] theorem fnD_0 : fnD 0 m a [] = finD (a (List.replicate m none)) := fnD_eq (ds := []) (n := 0) rfl
end
end F3
set_option maxRecDepth 100000
set_option maxHeartbeats 2000000
/-! Ex2: raise X() of such a class; defs of data that may raise; try -/
namespace F3
open PySem PySem.Spec PyProof.Rows L2
/-- the body of __init__(self): super().__init__('m') -/
abbrev eB0 (p0 p1 p2 p3 p4 p5 : Pos) (tx : Str) (j : Nat) : List Stmt := [.Expr (.Call (.Attribute (.Call (.Name "super" p0) [] [] p1) "__init__" p2) [.Constant (.str tx) j p3] [] p4) p5]
/-- what the written part says of a class X(GridError) with such an __init__ -/
structure Ex0 (prog : Program) (K : PySem.W.Frag) (C : Addr) : Prop where
  ex : ∃ (fI : Addr) (qual : Str) (q p0 p1 p2 p3 p4 p5 : Pos) (tx : Str) (j : Nat) (nms : List (Str × NameKind)),
    Fx.ExTxt prog K C fI qual (Fx.iA0 q) (eB0 p0 p1 p2 p3 p4 p5 tx j) nms ∧ nms.lookup ("super" : Str) = some .globalImplicit ∧ nms.lookup ("__class__" : Str) = some .free ∧ nms.lookup ("self" : Str) = some .local ∧ (∀ y ∈ nms, y.2 ≠ .cell) ∧ p2.endLine = p4.line
section
variable {X : Cx} {C : Addr}
theorem pmk0 {x : Str} {k : Nat} {p pos : Pos} (T : Ex0 X.prog X.K C) (hr : Room k X.A) (gC : X.mg x = some (.ref C)) (gs : X.mg "super" = none) (hg : Gl X x) (hdb : (x == ("__debug__" : Str)) = false := by decide) :
    L2N.PMk X (.Call (.Name x p) [] [] pos) (fun _ H Q => Q (.ref C) none H) := by
  intro pins s σ H Q I h
  obtain ⟨fI, qual, q, p0, p1, p2, p3, p4, p5, tx, j, nms, T, hks, hkc, hka, hcell, hpos⟩ := T.ex
  refine wpAny_Call_Name_kw (ld_glob I hg gC (PySem.W.callWith_K0 I.kIn T.kC ?_) hdb)
  obtain ⟨mb, h1, h2⟩ := I.mod.blt
  show wpAny _ _ (call (.ref C) []) _ _ _
  have hb : mb "super" = some (.type "super") := (h2 "super" (by decide)).trans (by decide +kernel)
  refine wpAny_call (Fx.made0 T I.kIn I.nolimit (I.mod.glob.keeps I.bk) gs (h1.keeps I.bk) hb (by have := hr.dp; omega) hks hkc hka hcell hpos fun h' tk e t1 k hn he => ?_)
  have na : H e = none := I.hok.gone hn
  exact ⟨e, _, _, s, H, .ref C, none, rfl, I, k, hn, he, ⟨rfl, rfl, fun vs h => by cases h; rfl⟩, rfl, rfl, na, rfl, I.bare, raises_own T.exC T.tyC, h⟩
/-- raise X() -/
theorem ps_raise0 {x : Str} {k : Nat} {W : WX} {p pos pos2 : Pos} (hc : X.calm = true) (tk : L2N.Takes X W) (T : Ex0 X.prog X.K C) (hr : Room k X.A) (gC : X.mg x = some (.ref C)) (gs : X.mg "super" = none) (hg : Gl X x := by rfl) (hdb : (x == ("__debug__" : Str)) = false := by decide) :
    PS X (.Raise (some (.Call (.Name x p) [] [] pos)) none pos2) (fun _ σ H => W (.ref C) none σ H) := L2N.ps_raise hc tk (pmk0 T hr gC gs hg hdb)
end
/-! ### defs that may raise -/
inductive RX where
  | ok (r : Res)
  | ex (t : Str)
/-- it hands back r, or raises; cl: the class of each name -/
def spX (K : PySem.W.Frag) (cl : Str → Value) (n : Nat) (g : List PyData → Option RX) : Sp := fun vs H Q E =>
  vs.length = n ∧ ∃ ds o Z, (∀ p ∈ Z, ∃ u, H p = some u) ∧ DpAll K (off H Z) vs ds ∧ g ds = some o ∧ (∀ r, o = .ok r → ∀ v H', Same H H' → Vl K H H Z H' r v → Q v H') ∧ (∀ t, o = .ex t → ∀ H', Same H H' → E (cl t) none H')
/-- a def keeps a promise, where no repr runs; it may raise -/
structure FnX (P : Program) (w : World) (K : PySem.W.Frag) (mg : Str → Option Value) (base : Heap) (k : Nat) (f : Addr) (fd : FuncData) (ps : List Str) (sp : Sp) : Prop where
  len : ∀ vs H Q E, sp vs H Q E → vs.length = ps.length
  run : ∀ (A : Around) (outer : List PySem.Env) (s : Shared) (H : Hp) (args : Args) (us : List Value) (vs : List V) (Q : VK) (E : XK),
    Room k A → A.guards = some [] → Env0 P w K mg base A outer s H → BindsTo s fd args (ps.zip us) → Vals vs us → sp vs H Q E →
      codeAny (model P w) A (.call (.ref f) args) (CR (L2N.CX P w) outer P w H s Q E) s
section
variable {P : Program} {w : World} {K : PySem.W.Frag} {mg : Str → Option Value} {base : Heap}
theorem fnX_of {x qual : Str} {st : Stmt} {f : Addr} {fd : FuncData} {N ps : List Str} {k : Nat} {sp : Sp} (F : Fun K x qual st f fd) (S : FnScope N ps (defScope st))
    (len : ∀ vs H Q E, sp vs H Q E → vs.length = ps.length)
    (body : ∀ (cdv : Value) (A : Around) (outer : List PySem.Env) (s : Shared) (H : Hp) (vs : List V) (Q : VK) (E : XK),
      Room k (A.deeper (envOfC qual (defScope st) s.heap.objs.size f cdv)) → A.guards = some [] → sp vs H Q E →
      ∃ t, PSs (cxOf (L2N.CX P w) P w K mg base N qual (defScope st) f cdv A outer s H E) (defBody st) t ∧
        t { nx := fun _ H' => Q .non H', rt := Q } (start N vs) H) : FnX P w K mg base (k + 1) f fd ps sp := by
  obtain ⟨oc, od, kV, doc, pm, an, cdv, ct, osl, rfl, lk, hcd⟩ := F.ex
  refine ⟨len, fun A outer s H args us vs Q E hr hg e0 hb r hsp => ?_⟩
  have KX : K.In s.heap := e0.mod.kin.keeps fun b o e => (e0.bs b o e).1
  have lim : s.heap.NoLimit := e0.mod.nolimit.keeps fun b o e => (e0.bs b o e).1
  refine codeAny_call_function hr.depth (KX _ _ lk) rfl S.co S.gen rfl
    (PySem.W.codeRec_of KX hcd) (hb _ _ _ _ ?_)
  refine wpAny_newFunctionEnv_cells S.kind (fun y hy => ?_) fun env he s1 x => ?_
  · obtain ⟨n, v⟩ := y
    cases S.par n (List.of_mem_zip hy).1 with
    | inl q => exact .inl q
    | inr q => exact .inr ⟨q, PySem.W.cellsFrom_some _ _ _ (.inl q)⟩
  subst he
  refine ⟨lim.keeps x.toInCall.keep, codeAny_func ?_⟩
  obtain ⟨t, ht, hq⟩ := body cdv A outer s H vs Q E (hr.deeper _) hg hsp
  have I := inv_start (CX := L2N.CX P w) (E := E) S hr.hd e0 (len _ _ _ _ hsp) r x
  refine wpAny_mono (ht.run [] s1 (start N vs) H _ I hq) (fun fl s' hs => ?_) fun e s' hs => hs
  cases fl with
  | ret u =>
    obtain ⟨v, σ', H', J, rv, q⟩ := hs
    exact ⟨v, H', J.os, J.bare, J.base, J.hok, rv, q⟩
  | next =>
    obtain ⟨σ', H', J, q⟩ := hs
    exact ⟨.non, H', J.os, J.bare, J.base, J.hok, rfl, q⟩
  | brk =>
    obtain ⟨_, _, _, q⟩ := hs
    exact q.elim
  | cont =>
    obtain ⟨_, _, _, q⟩ := hs
    exact q.elim
def fnDX (n N : Nat) (body : Rh → Option Out) (ds : List PyData) : Option RX := if ds.length = n then match body (ds.map (fun d => some (.sh d)) ++ List.replicate (N - n) none) with
    | some (.rt r) => some (.ok r)
    | some (.nx _) => some (.ok (.sh .none))
    | some (.ex t) => some (.ex t)
    | _ => none
  else none
/-- THE RULE of a def of data that may raise -/
theorem fnX_data {x qual : Str} {st : Stmt} {f : Addr} {fd : FuncData} {Nm ps : List Str} {k n N : Nat} {body : Rh → Option Out} {cl : Str → Value}
    (F : Fun K x qual st f fd) (S : FnScope Nm ps (defScope st)) (hn : ps.length = n) (hN : Nm.length = N)
    (h : ∀ (cdv : Value) (A : Around) (outer : List PySem.Env) (s : Shared) (H : Hp) (E : XK), Room k (A.deeper (envOfC qual (defScope st) s.heap.objs.size f cdv)) → A.guards = some [] →
      ∃ t, PSs (cxOf (L2N.CX P w) P w K mg base Nm qual (defScope st) f cdv A outer s H E) (defBody st) t ∧ SOk K (fun t H' => E (cl t) none H') t body) : FnX P w K mg base (k + 1) f fd ps (spX K cl n (fnDX n N body)) := by
  refine fnX_of F S (fun vs H Q E hs => hs.1.trans hn.symm) fun cdv A outer s H vs Q E hr hg hs => ?_
  obtain ⟨t, ht, hb⟩ := h cdv A outer s H E hr hg
  obtain ⟨hv, ds, o, Z, hz, hd, hgd, q, qx⟩ := hs
  refine ⟨t, ht, ?_⟩
  unfold fnDX at hgd
  by_cases hl : ds.length = n
  case neg => rw [if_neg hl] at hgd; cases hgd
  rw [if_pos hl] at hgd
  have c := start_cor (Nm := Nm) hz hd hl hN
  split at hgd
  · rename_i r' hb'
    cases hgd
    exact hb H Z Z _ _ _ H _ hb' c fun v H' s' v' => q _ rfl v H' s' v'
  · rename_i ρ' hb'
    cases hgd
    exact hb H Z Z _ _ _ H _ hb' c fun O' σ' H' c' _ => q _ rfl _ H' c'.bs.same .none
  · rename_i t' hb'
    cases hgd
    exact hb H Z Z _ _ _ H _ hb' c fun H' s' => qx _ rfl H' s'
  · cases hgd
/-- raise X(), as data -/
@[simp] def sRaise (t : Str) : Rh → Option Out := fun _ => some (.ex t)
theorem sok_raise {W : Str → Hp → Prop} {E : WX} {C : Addr} (t : Str) (h : ∀ σ H, W t H → E (.ref C) none σ H) : SOk K W (fun _ σ H => E (.ref C) none σ H) (sRaise t) := fun H0 Z O ρ o σ H D e c q => by
  cases e
  exact h σ H (q H c.bs.same)
end
end F3
set_option maxRecDepth 100000
set_option maxHeartbeats 2000000
/-! Ex3: try: x = f(..) except X as e: suite, as data -/
namespace F3
open PySem PySem.Spec PyProof.Rows L2
section
variable {X : Cx} {k : Nat} {f : Addr} {fd : FuncData} {ps : List Str} {sp : Sp} {x : Str} {p pos : Pos} {e : Expr} {es : List Expr} {t : TA} {E : L2.St → XK}
theorem runX {pins : List (Addr × Obj)} {σ : L2.St} {H : Hp} {s : Shared} {Q : VK} {us : List Value} {vs : List V} (F : FnX X.prog X.w X.K X.mg X.base k f fd ps sp) (hr : Room k X.A) (hG : X.A.guards = some []) (hb : Binds X.K fd ps [])
    (hx : PassesAt (L2N.CX X.prog X.w) X σ (E σ)) (I : Inv X pins σ H s) (r : Vals vs us) (h : sp vs H Q (E σ)) : wpAny (model X.prog X.w) X.A (call (.ref f) us) (EP X pins σ Q) X.xe s := by
  have hl : (us ++ []).length = ps.length := by rw [List.append_nil, ← r.length]; exact F.len _ _ _ _ h
  have hB := hb s us I.kIn hl
  rw [List.append_nil] at hB
  refine wpAny_call (codeAny_mono (F.run X.A X.stack s H ⟨us, []⟩ us vs Q (E σ) hr hG I.env0 hB r h) fun r s' hq => ?_)
  cases r with
  | error e => exact hx pins H s e s' I hq
  | ok fl =>
    cases fl with
    | ret u => exact I.after hq
    | next => exact hq.elim
    | brk => exact hq.elim
    | cont => exact hq.elim
theorem pe_callX (F : FnX X.prog X.w X.K X.mg X.base k f fd ps sp) (hr : Room k X.A) (hG : X.A.guards = some []) (hg : Gl X x) (hm : X.mg x = some (.ref f))
    (hk : PySem.W.keepIn X.K (.ref f) = true) (hb : Binds X.K fd ps []) (hx : ∀ σ, PassesAt (L2N.CX X.prog X.w) X σ (E σ)) (ha : PA X (e :: es) t)
    (hdb : (x == ("__debug__" : Str)) = false := by decide) (he : starEach (e :: es) X.env = (false, eval e X.env) :: starEach es X.env := by rfl)
    (hpl : (backTo pos (starEach es X.env)).any (·.1) = false := by rfl) : PE X (.Call (.Name x p) (e :: es) [] pos) (tCallS sp E t) := by
  refine ⟨fun pins s σ H Q I h => wpAny_Call_Name_kw (ld_glob I hg hm ?_ hdb)⟩
  refine PySem.W.callWith_K (h₀ := X.base) I.ok.mod.kin hk
    (thn (ha.run pos pins s σ H _ I h) fun us s1 ⟨vs, H1, I1, r, q⟩ => ⟨I1.kIn, runX F hr hG hb (hx σ) I1 r q⟩) he hpl
end
/-! ### the suite -/
section
variable {K : PySem.W.Frag} {W : Str → Hp → Prop}
def EOkS (K : PySem.W.Frag) (n : Nat) (a : Addr) (te : TE) (f : Rh → Option Res) : Prop := ∀ (H0 : Hp) (Z O : List Addr) (ρ : Rh) (r : Res) (σ : L2.St) (H : Hp) (Q : VK),
  f ρ = some r → Cor K H0 Z O ρ σ H → σ[n]? = some (some (.ref a)) → (∀ v H', Same H H' → Vl K H0 H O H' r v → Q v H') → te σ H Q
theorem eoks_of {n : Nat} {a : Addr} {te : TE} {f : Rh → Option Res} (h : EOk K te f) : EOkS K n a te f := fun H0 Z O ρ r σ H Q e c _ q => h H0 Z O ρ r σ H Q e c q
theorem eoks_and {n : Nat} {a : Addr} {t u : TE} {f g : Rh → Option Res} (ha : EOkS K n a t f) (hb : EOkS K n a u g) : EOkS K n a (tAndV t u) (eAndD f g) := fun H0 Z O ρ z σ H Q e c hn q => by
  obtain ⟨x, e1, e⟩ := bind_some e
  obtain ⟨k, e2, e⟩ := bind_some e
  refine ha H0 Z O ρ x σ H _ e1 c hn fun v H1 s1 v1 => ⟨k, v1.tob e2, ?_⟩
  by_cases hx : k = true
  · rw [if_pos hx] at e ⊢
    exact hb H0 Z O ρ z σ H1 _ e (c.mono s1) hn fun u H2 s2 v2 => q u H2 (s1.trans s2) (v2.anti s1)
  · rw [if_neg hx] at e ⊢
    cases e
    exact q _ H1 s1 .bool
theorem eoks_or {n : Nat} {a : Addr} {t u : TE} {f g : Rh → Option Res} (ha : EOkS K n a t f) (hb : EOkS K n a u g) : EOkS K n a (tOrV t u) (eOrD f g) := fun H0 Z O ρ z σ H Q e c hn q => by
  obtain ⟨x, e1, e⟩ := bind_some e
  obtain ⟨k, e2, e⟩ := bind_some e
  refine ha H0 Z O ρ x σ H _ e1 c hn fun v H1 s1 v1 => ⟨k, v1.tob e2, ?_⟩
  by_cases hx : k = true
  · rw [if_pos hx] at e ⊢
    cases e
    exact q _ H1 s1 .bool
  · rw [if_neg hx] at e ⊢
    exact hb H0 Z O ρ z σ H1 _ e (c.mono s1) hn fun u H2 s2 v2 => q u H2 (s1.trans s2) (v2.anti s1)
/-- isinstance(e, Y), e the exception that the suite holds -/
def tIsE (K : PySem.W.Frag) (D a : Addr) (cls : Value) (d : Option Addr) (ta : TA) : TE := fun σ H Q => cls = .ref D ∧ d = none ∧ tCB (rIsE K D a) ta σ H Q
theorem pe_isE {X : Cx} {a D : Addr} {oe : Obj} {cls : Value} {d : Option Addr} {pn : List (Addr × Obj)} {p pos : Pos} {e c : Expr} {ta : TA} (C : ExcC X.K D) (hz : Zc cls d oe) (hf : ∃ vs, oe.data = .fields vs) (hg : Gl X "isinstance") (hm : X.mg "isinstance" = none)
    (ha : PA (X.suite a ((a, oe) :: pn)) [e, c] ta) (he : starEach [e, c] X.env = (false, eval e X.env) :: starEach [c] X.env := by rfl) (hpl : (backTo pos (starEach [c] X.env)).any (·.1) = false := by rfl) :
    PE (X.suite a ((a, oe) :: pn)) (.Call (.Name "isinstance" p) [e, c] [] pos) (tIsE X.K D a cls d ta) := by
  refine ⟨fun pins s σ H Q I h => ?_⟩
  obtain ⟨rfl, rfl, h⟩ := h
  exact (pe_callB (X := X.suite a ((a, oe) :: pn)) (call_isE C hz hf) hg hm bt_isinstance ha (he := he) (hpl := hpl)).run pins s σ H Q I h
theorem eoks_isE {D a : Addr} {n : Nat} {c : V} {cv : Value} {b : Bool} (hc : ∀ u, RelV c u → u = cv) (hk : PySem.W.kitOne K (.ref D) cv = some b) : EOkS K n a (tIsE K D a (.ref D) none (tCons (tVar n) (tCons (tC c) tNil))) (eC (.bool b)) := fun H0 Z O ρ z σ H Q e co hn q => by
  cases e
  exact ⟨rfl, rfl, .ref a, hn, c, cv, b, rfl, hc, hk, q _ H (Same.refl H) .bool⟩
def PostS (K : PySem.W.Frag) (W : Str → Hp → Prop) (n : Nat) (a : Addr) (H0 : Hp) (Z O : List Addr) (H : Hp) (D : Ends) : Out → Prop
  | .nx ρ => ∀ (O' : List Addr) (σ' : L2.St) (H' : Hp), Cor K H0 Z O' ρ σ' H' → σ'[n]? = some (some (.ref a)) → Same (off H O) (off H' O') → D.nx σ' H'
  | .rt r => ∀ (v : V) (H' : Hp), Same H0 H' → Vl K H0 H0 Z H' r v → D.rt v H'
  | _ => False
structure SOkS (K : PySem.W.Frag) (W : Str → Hp → Prop) (n : Nat) (t : Addr → TS) (f : Rh → Option Out) : Prop where
  run : ∀ (a : Addr) (H0 : Hp) (Z O : List Addr) (ρ : Rh) (o : Out) (σ : L2.St) (H : Hp) (D : Ends),
    f ρ = some o → Cor K H0 Z O ρ σ H → ρ[n]? = some none → σ[n]? = some (some (.ref a)) → PostS K W n a H0 Z O H D o → t a D σ H
  keep : ∀ ρ ρ', f ρ = some (.nx ρ') → ρ[n]? = some none → ρ'[n]? = some none
  two : ∀ ρ o, f ρ = some o → (∃ ρ', o = .nx ρ') ∨ ∃ r, o = .rt r
theorem PostS.step {n : Nat} {a : Addr} {H0 H H1 : Hp} {Z O O1 : List Addr} {D : Ends} {o : Out} (h : PostS K W n a H0 Z O H D o) (sm : Same (off H O) (off H1 O1)) : PostS K W n a H0 Z O1 H1 D o := by
  cases o with
  | nx ρ => exact fun O' σ' H' c z s => h O' σ' H' c z (sm.trans s)
  | rt r => exact h
  | bk _ => exact h
  | ct _ => exact h
  | ex _ => exact h
theorem put_get {ρ ρ' : Rh} {j : Nat} {r : Res} (h : putR ρ j r = some ρ') : ∃ r', ρ' = ρ.set j (some r') := by
  cases r <;> cases h <;> exact ⟨_, rfl⟩
theorem soks_set {n j : Nat} {te : Addr → TE} {f : Rh → Option Res} (hj : j ≠ n) (ha : ∀ a, EOkS K n a (te a) f) : SOkS K W n (fun a => tAsg (te a) (gName j)) (sSet j f) where
  run := fun a H0 Z O ρ o σ H D e c hn hs q => by
    obtain ⟨r, e1, e⟩ := bind_some e
    obtain ⟨ρ', e2, e⟩ := bind_some e
    cases e
    refine ha a H0 Z O ρ r σ H _ e1 c hs fun v H1 s1 v1 => ?_
    obtain ⟨O', c', sm⟩ := put_ok c s1 v1 e2
    exact q O' _ H1 c' (by rw [List.getElem?_set_ne hj]; exact hs) sm
  keep := fun ρ ρ' e hn => by
    obtain ⟨r, e1, e⟩ := bind_some e
    obtain ⟨ρ2, e2, e⟩ := bind_some e
    cases e
    obtain ⟨r', rfl⟩ := put_get e2
    rw [List.getElem?_set_ne hj]
    exact hn
  two := fun ρ o e => by
    obtain ⟨r, e1, e⟩ := bind_some e
    obtain ⟨ρ2, e2, e⟩ := bind_some e
    cases e
    exact .inl ⟨_, rfl⟩
theorem soks_ret {n : Nat} {te : Addr → TE} {f : Rh → Option Res} (ha : ∀ a, EOkS K n a (te a) f) : SOkS K W n (fun a => tRet (te a)) (sRet f) where
  run := fun a H0 Z O ρ o σ H D e c hn hs q => by
    obtain ⟨r, e1, e⟩ := bind_some e
    cases e
    exact ha a H0 Z O ρ r σ H _ e1 c hs fun v H1 s1 v1 => q v H1 (c.bs.same.trans s1) (vl_ret (c.bs.mono s1) c.bs.same v1)
  keep := fun ρ ρ' e hn => by
    obtain ⟨r, e1, e⟩ := bind_some e
    cases e
  two := fun ρ o e => by
    obtain ⟨r, e1, e⟩ := bind_some e
    cases e
    exact .inr ⟨_, rfl⟩
theorem soks_seq {n : Nat} {t u : Addr → TS} {f g : Rh → Option Out} (ha : SOkS K W n t f) (hb : SOkS K W n u g) : SOkS K W n (fun a => tSeq (t a) (u a)) (sSeq f g) where
  run := fun a H0 Z O ρ o σ H D e c hn hs q => by
    obtain ⟨o1, e1, e⟩ := bind_some e
    refine ha.run a H0 Z O ρ o1 σ H _ e1 c hn hs ?_
    cases o1 with
    | nx ρ1 => exact fun O1 σ1 H1 c1 z1 s1 => hb.run a H0 Z O1 ρ1 o σ1 H1 D e c1 (ha.keep _ _ e1 hn) z1 (q.step s1)
    | rt r => cases e; exact q
    | bk _ => rcases ha.two _ _ e1 with ⟨_, z⟩ | ⟨_, z⟩ <;> cases z
    | ct _ => rcases ha.two _ _ e1 with ⟨_, z⟩ | ⟨_, z⟩ <;> cases z
    | ex _ => rcases ha.two _ _ e1 with ⟨_, z⟩ | ⟨_, z⟩ <;> cases z
  keep := fun ρ ρ' e hn => by
    obtain ⟨o1, e1, e⟩ := bind_some e
    rcases ha.two _ _ e1 with ⟨_, rfl⟩ | ⟨_, rfl⟩
    · exact hb.keep _ _ e (ha.keep _ _ e1 hn)
    · cases e
  two := fun ρ o e => by
    obtain ⟨o1, e1, e⟩ := bind_some e
    rcases ha.two _ _ e1 with ⟨_, rfl⟩ | ⟨_, rfl⟩
    · exact hb.two _ _ e
    · cases e
      exact .inr ⟨_, rfl⟩
/-- a slot of which nothing is said -/
theorem Cor.junk {H0 H : Hp} {Z O : List Addr} {ρ : Rh} {σ : L2.St} {n : Nat} (c : Cor K H0 Z O ρ σ H) (h : ρ[n]? = some none) (x : Option V) : Cor K H0 Z O ρ (σ.set n x) H := by
  have ne : ∀ {j : Nat} {r : Res}, ρ[j]? = some (some r) → n ≠ j := fun {j r} e z => by
    subst z
    rw [h] at e
    cases e
  refine ⟨c.bs, fun j r e => ?_, fun a b ds es p hab ha hb sa sb => ?_, by rw [List.length_set]; exact c.len⟩
  · rw [List.getElem?_set_ne (ne e)]
    exact c.sl j r e
  · rw [List.getElem?_set_ne (ne ha)] at sa
    rw [List.getElem?_set_ne (ne hb)] at sb
    exact c.di a b ds es p hab ha hb sa sb
/-! ### the statement -/
/-- slot n is there and holds nothing -/
def isFree (ρ : Rh) (n : Nat) : Bool := match ρ[n]? with
  | some none => true
  | _ => false
theorem isFree_of {ρ : Rh} {n : Nat} (h : isFree ρ n = true) : ρ[n]? = some none := by
  unfold isFree at h
  split at h
  · assumption
  · cases h
/-- try: slot i = g(as) except t0 as slot n: su -/
def sTry (t0 : Str) (i n : Nat) (g : List PyData → Option RX) (as : Rh → Option (List Res)) (su : Rh → Option Out) : Rh → Option Out := fun ρ => (as ρ).bind fun rs => (shrs rs).bind fun ds => (g ds).bind fun o => match o with
  | .ok r => (putR ρ i r).bind fun ρ' => some (.nx ρ')
  | .ex t => if t = t0 ∧ isFree ρ n = true then su ρ else none
theorem sok_try {cl : Str → Value} {c : Value} {t0 : Str} {i n m : Nat} {g : List PyData → Option RX} {ta : TA} {as : Rh → Option (List Res)} {ts : Addr → Value → Option Addr → TS} {su : Rh → Option Out} (ha : AOk K ta as)
    (hn : ∀ ρ rs, as ρ = some rs → rs.length = m) (hm : PySem.W.exmOne K (cl t0) c = some true) (hs : SOkS K W n (fun a => ts a (cl t0) none) su) :
    SOk K W (fun D σ H => tAsg (tCallS (spX K cl m g) (WE (wAs K c n ts (fun _ _ _ _ => False) D)) ta) (gName i) D σ H) (sTry t0 i n g as su) := fun H0 Z O ρ o σ H D e co q => by
  obtain ⟨rs, e1, e⟩ := bind_some e
  obtain ⟨ds, e2, e⟩ := bind_some e
  obtain ⟨ox, e3, e⟩ := bind_some e
  refine ha H0 Z O ρ rs σ H _ e1 co fun vs H1 s1 v1 => ?_
  obtain ⟨h1, h2⟩ := shrs_ok v1 e2
  have b1 := co.bs.mono s1
  refine ⟨by rw [dpa_len h1, h2]; exact hn ρ rs e1, ds, ox, O, b1.live, h1, e3, fun r er v H2 s2 v2 => ?_, fun t et H2 s2 => ?_⟩
  · subst er
    obtain ⟨ρ', e4, e⟩ := bind_some e
    cases e
    have v3 : Vl K H0 H O H2 r v := by
      cases r with
      | sh d => exact v2
      | fr es => exact v2.anti s1
      | bo es =>
        obtain ⟨p, ws, g1, g2, g3, g4⟩ := v2
        exact ⟨p, ws, g1, b1.same.free g2, g3, g4⟩
    obtain ⟨O', c', sm⟩ := put_ok co (s1.trans s2) v3 e4
    exact q O' _ H2 c' sm
  · subst et
    by_cases hc : t = t0 ∧ isFree ρ n = true
    case neg =>
      have e' : (if t = t0 ∧ isFree ρ n = true then su ρ else none) = some o := e
      rw [if_neg hc] at e'
      cases e'
    have e' : (if t = t0 ∧ isFree ρ n = true then su ρ else none) = some o := e
    rw [if_pos hc] at e'
    obtain ⟨rfl, hρ⟩ := hc
    have hρ := isFree_of hρ
    refine ⟨true, hm, fun _ a na => ?_, fun z => Bool.noConfusion z⟩
    have c2 := (co.mono (s1.trans s2)).junk hρ (some (.ref a))
    have hl : n < σ.length := by
      have := (List.getElem?_eq_some_iff.mp hρ).1
      rw [← co.len]
      exact this
    have sm := off_same (O := O) (s1.trans s2)
    refine hs.run a H0 Z O ρ o _ H2 _ e' c2 hρ (List.getElem?_set_self hl) ?_
    rcases hs.two _ _ e' with ⟨ρ', rfl⟩ | ⟨r, rfl⟩
    · exact fun O' σ' H' c' _ s' => q O' _ H' (c'.junk (hs.keep _ _ e' hρ) none) (sm.trans s')
    · exact q
/-- .. except t0: su, without a name -/
def sTryO (t0 : Str) (i : Nat) (g : List PyData → Option RX) (as : Rh → Option (List Res)) (su : Rh → Option Out) : Rh → Option Out := fun ρ => (as ρ).bind fun rs => (shrs rs).bind fun ds => (g ds).bind fun o => match o with
  | .ok r => (putR ρ i r).bind fun ρ' => some (.nx ρ')
  | .ex t => if t = t0 then su ρ else none
theorem sok_tryO {cl : Str → Value} {c : Value} {t0 : Str} {i m : Nat} {g : List PyData → Option RX} {ta : TA} {as : Rh → Option (List Res)} {ts : TS} {su : Rh → Option Out} (ha : AOk K ta as)
    (hn : ∀ ρ rs, as ρ = some rs → rs.length = m) (hm : PySem.W.exmOne K (cl t0) c = some true) (hs : SOk K W ts su) :
    SOk K W (fun D σ H => tAsg (tCallS (spX K cl m g) (WE (wOnly K c (fun _ _ _ => ts) (fun _ _ _ _ => False) D)) ta) (gName i) D σ H) (sTryO t0 i g as su) := fun H0 Z O ρ o σ H D e co q => by
  obtain ⟨rs, e1, e⟩ := bind_some e
  obtain ⟨ds, e2, e⟩ := bind_some e
  obtain ⟨ox, e3, e⟩ := bind_some e
  refine ha H0 Z O ρ rs σ H _ e1 co fun vs H1 s1 v1 => ?_
  obtain ⟨h1, h2⟩ := shrs_ok v1 e2
  have b1 := co.bs.mono s1
  refine ⟨by rw [dpa_len h1, h2]; exact hn ρ rs e1, ds, ox, O, b1.live, h1, e3, fun r er v H2 s2 v2 => ?_, fun t et H2 s2 => ?_⟩
  · subst er
    obtain ⟨ρ', e4, e⟩ := bind_some e
    cases e
    have v3 : Vl K H0 H O H2 r v := by
      cases r with
      | sh d => exact v2
      | fr es => exact v2.anti s1
      | bo es =>
        obtain ⟨p, ws, g1, g2, g3, g4⟩ := v2
        exact ⟨p, ws, g1, b1.same.free g2, g3, g4⟩
    obtain ⟨O', c', sm⟩ := put_ok co (s1.trans s2) v3 e4
    exact q O' _ H2 c' sm
  · subst et
    by_cases hc : t = t0
    case neg =>
      have e' : (if t = t0 then su ρ else none) = some o := e
      rw [if_neg hc] at e'
      cases e'
    have e' : (if t = t0 then su ρ else none) = some o := e
    rw [if_pos hc] at e'
    subst hc
    exact ⟨true, hm, fun _ a na => hs H0 Z O ρ o σ H2 D e' (co.mono (s1.trans s2)) (q.step (off_same (s1.trans s2))), fun z => Bool.noConfusion z⟩
end
end F3
set_option maxRecDepth 100000
set_option maxHeartbeats 2000000
/-! Ex4: D.get(n, x), D a written dict of ints -/
namespace F3
open PySem PySem.Spec PyProof.Rows L2
inductive IE : List DictEntry → List (Int × Int) → Prop
  | nil : IE [] []
  | cons {k v h : Int} {t u : Tok} {es : List DictEntry} {kvs : List (Int × Int)} (hh : h = hashInt k) (r : IE es kvs) : IE (⟨h, .int k t, .int v u⟩ :: es) ((k, v) :: kvs)
structure KI (K : PySem.W.Frag) (d : Addr) (kvs : List (Int × Int)) : Prop where
  at_ : ∃ es n, K.lookup d = some ⟨.type "dict", none, .dict es n, #[]⟩ ∧ IE es.toList kvs
  nd : (kvs.map (·.1)).Nodup
  low : (d == sysModules) = false
theorem ie_keys {P : Program} {w : World} {es : List DictEntry} {kvs : List (Int × Int)} (h : IE es kvs) : ∀ e ∈ es, ∃ k, (mixKind P w).is k e.key = true ∧ e.hash = (mixKind P w).hash k := by
  induction h with
  | nil => exact fun e h => nomatch h
  | @cons k v hs t u es kvs hh r ih =>
    intro e h
    rcases List.mem_cons.mp h with rfl | h
    · exact ⟨.inl k, kV_is (k := .inl k) (show RelV (.int k) (.int k t) from ⟨t, rfl⟩), hh⟩
    · exact ih e h
/-- the value at a key -/
def atKey : List (Int × Int) → Int → Option Int
  | [], _ => none
  | (k, v) :: r, i => if k = i then some v else atKey r i
/-- the values as the model's -/
inductive VE : List (Key × Value) → List (Int × Int) → Prop
  | nil : VE [] []
  | cons {k v : Int} {u : Tok} {vs : List (Key × Value)} {kvs : List (Int × Int)} (r : VE vs kvs) : VE ((.inl k, .int v u) :: vs) ((k, v) :: kvs)
theorem ve_keys {vs : List (Key × Value)} {kvs : List (Int × Int)} (h : VE vs kvs) : vs.map (·.1) = kvs.map fun p => (Sum.inl p.1 : Key) := by
  induction h with
  | nil => rfl
  | cons r ih => rw [List.map_cons, List.map_cons, ih]
theorem ve_at {vs : List (Key × Value)} {kvs : List (Int × Int)} (h : VE vs kvs) (i : Int) : match atKey kvs i with | some v => ∃ u, valueAt vs (.inl i) = some (.int v u) | none => valueAt vs (.inl i) = none := by
  induction h with
  | nil => rfl
  | @cons k v u vs kvs r ih =>
    unfold atKey
    by_cases hk : k = i
    · rw [if_pos hk]
      subst hk
      exact ⟨u, by simp [valueAt]⟩
    · rw [if_neg hk]
      have e : valueAt ((Sum.inl k, Value.int v u) :: vs) (.inl i : Key) = valueAt vs (.inl i) := by
        unfold valueAt
        rw [List.find?_cons]
        have : decide ((Sum.inl k : Key) = Sum.inl i) = false := decide_eq_false fun z => hk (Sum.inl.inj z)
        simp [this, hk]
      rw [e]
      exact ih
theorem ie_ve {P : Program} {w : World} {es : List DictEntry} {kvs : List (Int × Int)} (h : IE es kvs) : ∃ vs, VE vs kvs ∧ Pairs (mixKind P w) es vs := by
  induction h with
  | nil => exact ⟨[], .nil, .nil⟩
  | @cons k v hs t u es kvs hh r ih =>
    obtain ⟨vs, h1, h2⟩ := ih
    exact ⟨_, .cons (u := u) h1, .cons (kV_is (k := .inl k) (show RelV (.int k) (.int k t) from ⟨t, rfl⟩)) rfl h2⟩
theorem nodup_inl : ∀ {ks : List Int}, ks.Nodup → (ks.map (Sum.inl : Int → Key)).Nodup
  | [], _ => .nil
  | k :: ks, h => by
    obtain ⟨h1, h2⟩ := List.nodup_cons.mp h
    rw [List.map_cons]
    refine List.nodup_cons.mpr ⟨fun z => ?_, nodup_inl h2⟩
    obtain ⟨j, hj, e⟩ := List.mem_map.mp z
    cases e
    exact h1 hj
theorem ki_dict {P : Program} {w : World} {K : PySem.W.Frag} {h : Heap} {d : Addr} {kvs : List (Int × Int)} (X : K.In h) (D : KI K d kvs) : ∃ vs, VE vs kvs ∧ h.DictOf (mixKind P w) d vs := by
  obtain ⟨es, n, ho, hi⟩ := D.at_
  obtain ⟨vs, h1, h2⟩ := ie_ve (P := P) (w := w) hi
  refine ⟨vs, h1, _, es, n, X _ _ ho, ⟨rfl, rfl, rfl⟩, rfl, fun e he => ?_, h2, ?_⟩
  · exact ie_keys hi e (by simpa using he)
  · rw [ve_keys h1]
    have := nodup_inl D.nd
    rwa [List.map_map] at this
def tKGet (d : Addr) (kvs : List (Int × Int)) (td ty tx : TE) : TE := fun σ H Q => td σ H fun x H1 => x = .ref d ∧ ty σ H1 fun y H2 => tx σ H2 fun z H3 => ∃ i, y = .int i ∧ Q (match atKey kvs i with | some v => .int v | none => z) H3
section
variable {X : Cx} {o e f : Expr} {d : Addr} {kvs : List (Int × Int)} {td ty tx : TE} {apos cpos : Pos}
theorem pe_kget (D : KI X.K d kvs) (ho : PE X o td) (he : PE X e ty) (hf : PE X f tx) (m : M2 X o "get" apos e f cpos) : PE X (.Call (.Attribute o "get" apos) [e, f] [] cpos) (tKGet d kvs td ty tx) := by
  refine ⟨fun pins s σ H Q I h => ?_⟩
  refine wpAny_Call_method m.base m.few m.line PySem.F.plainAttrs_dict PySem.F.slot_dict_get PySem.F.type_dict_get (thn (ho.run pins s σ H _ I h) fun u s1 ⟨x, H1, I1, rx, ex, q1⟩ => ?_)
  subst ex
  obtain rfl : u = Value.ref d := rx
  obtain ⟨vs, _, dd⟩ := ki_dict (P := X.prog) (w := X.w) I1.kIn D
  refine ⟨dd.typeIs, fun b q => ?_, ?_⟩
  · cases q
    obtain ⟨ob, _, _, h1, h2, _⟩ := dd
    exact ⟨ob, h1, h2.2.1⟩
  rw [m.trees]
  refine Calls.callWith_builtin rfl (Calls.evalArgs_plain (Calls.spliced_cons (thn (he.run pins s1 σ H1 _ I1 q1) fun iv s2 ⟨y, H2, I2, ry, q2⟩ =>
    Calls.spliced_cons (thn (hf.run pins s2 σ H2 _ I2 q2) fun fv s3 ⟨z, H3, I3, rz, i, ey, q3⟩ => Calls.spliced_nil ?_))))
  subst ey
  obtain ⟨ws, hw, d3⟩ := ki_dict (P := X.prog) (w := X.w) I3.kIn D
  have k3 : (mixKind X.prog X.w).is (.inl i) iv = true := kV_is (k := .inl i) ry
  refine call_meetsIn PySem.F.slot_dict_get d3.typeIs PySem.F.entry_dict_get (PySem.F.args_dict_get_3 _ _ _) (meets_dict_get_default (mixKind X.prog X.w) d k3 D.low fv) ⟨_, d3.mapOf, ?_⟩
  have := ve_at hw i
  cases ha : atKey kvs i with
  | none =>
    rw [ha] at this q3
    rw [this]
    exact ⟨z, H3, I3.tok _, rz, q3⟩
  | some v =>
    rw [ha] at this q3
    obtain ⟨t, this⟩ := this
    rw [this]
    exact ⟨.int v, H3, I3.tok _, ⟨t, rfl⟩, q3⟩
end
section
variable {K : PySem.W.Frag}
@[simp] def eKGet (kvs : List (Int × Int)) (a b : Rh → Option Res) : Rh → Option Res := fun ρ => (a ρ).bind fun x => (b ρ).bind fun y => match x.toi, y.toi with
  | some i, some j => some (.sh (.int ((atKey kvs i).getD j)))
  | _, _ => none
theorem eok_kget {d : Addr} {kvs : List (Int × Int)} {ty tx : TE} {a b : Rh → Option Res} (ha : EOk K ty a) (hb : EOk K tx b) : EOk K (tKGet d kvs (tC (.ref d)) ty tx) (eKGet kvs a b) := fun H0 Z O ρ z σ H Q e c q => by
  obtain ⟨x, e1, e⟩ := bind_some e
  obtain ⟨y, e2, e⟩ := bind_some e
  refine ⟨rfl, ha H0 Z O ρ x σ H _ e1 c fun v H1 s1 v1 => hb H0 Z O ρ y σ H1 _ e2 (c.mono s1) fun u H2 s2 v2 => ?_⟩
  cases hx : x.toi with
  | none => rw [hx] at e; cases e
  | some i =>
    cases hy : y.toi with
    | none => rw [hx, hy] at e; cases e
    | some j =>
      rw [hx, hy] at e
      cases e
      refine ⟨i, v1.toi hx, ?_⟩
      cases hk : atKey kvs i with
      | none =>
        rw [v2.toi hy]
        rw [hk] at q
        exact q _ H2 (s1.trans s2) .int
      | some w =>
        rw [hk] at q
        exact q _ H2 (s1.trans s2) .int
end
end F3
set_option maxRecDepth 100000
set_option maxHeartbeats 2000000
/-! Ex5: while an exception is handled: a tuple unpacked, defs of data called -/
namespace F3
open PySem PySem.Spec PyProof.Rows L2 HotX
section
variable {prog : Program} {w : World} {A : Around} {E : Value → Shared → Prop} {s : Shared}
/-- a tuple's iterator at its end, an exception being handled -/
theorem tup_end_hot {it t x1 : Addr} {i : Nat} {items : Array Value} {Q : Option Value → Shared → Prop} (hot : HotAt A x1 s.heap) (hne : it ≠ x1)
    (hit : IsTupIter s.heap it t i) (ht : IsTup s.heap t items) (hx : items[i]? = none)
    (hQ : ∀ h', Heap.ExtBut it s.heap h' → Q none { s with heap := h' }) : wpAny (model prog w) A (pyNext (.ref it)) Q E s := by
  obtain ⟨o, ho, hc, hd⟩ := id hit
  obtain ⟨ol, hol, _, nl, hdl⟩ := ht
  obtain ⟨hh, o1, vs1, h1, d1, c1⟩ := hot
  unfold pyNext
  refine wpAny_bind (wpAny_attempt (wpAny_callSpecial?_slot (name := Str.ofString "__next__") hit.typeIs slot_tupleiter_next
    (wpAny_call_entry slot_tupleiter_next hit.typeIs entry_tupleiter_next ?_ (args_tupleiter_next _))))
  show wpAny _ _ (field (.ref it) 0 >>= _) _ _ s
  refine wpAny_bind (wpAny_field ho hd (x := .ref t) rfl ?_)
  show wpAny _ _ (if (Value.ref t == Value.none) = true then _ else _) _ _ s
  rw [if_neg (show ¬ ((Value.ref t == Value.none) = true) from Bool.false_ne_true)]
  show wpAny _ _ (field (.ref it) 1 >>= _) _ _ s
  refine wpAny_bind (wpAny_field ho hd (x := .int i 0) rfl ?_)
  show wpAny _ _ (seqItems? (.ref t) >>= _) _ _ s
  refine wpAny_bind (wpAny_seqItems hol hdl ?_)
  simp only [Int.toNat_natCast, hx]
  refine wpAny_bind (wpAny_rule (wpAny_bind (wpAny_setField ho hd (by simp) ?_)))
  show wpAny _ _ (newExc (.type "StopIteration") [] >>= _) _ _ _
  refine wpAny_bind ?_
  simp only [newExc, newTuple]
  refine wpAny_bind (wpAny_newObj_type ?_ (by size_fits))
  refine wpAny_bind (m := firstArgMember _ _) (wpAny_of_eq (a := Value.none) (by first | rfl | (simp only [firstArgMember]; rfl)) ?_)
  refine wpAny_newObj_type ?_ (by size_fits)
  have e1 := (Heap.get?_update_other s.heap (Obj.mapFields (·.setIfInBounds 0 Value.none)) hne).trans h1
  refine raiseNew_hot ⟨hh, o1, vs1, Heap.get?_push_of_some _ (Heap.get?_push_of_some _ e1), d1, c1⟩ (Nat.ne_of_lt (Heap.lt_size (Heap.get?_push_of_some _ e1))) (Heap.get?_push_size _ rfl) rfl (by first | (simp; done) | (simp; omega) | (simp only [Array.size_append]; simp; omega)) ?_
  refine wpAny_bind (wpAny_isInstance (T := "StopIteration") (b := true) ⟨_, Heap.get?_update_self _ (Heap.get?_push_size _ rfl) rfl, rfl⟩ isSubtype_stop ?_)
  refine wpAny_pure (hQ _ fun b o hb e => ?_)
  have e2 := (Heap.get?_update_other s.heap (Obj.mapFields (·.setIfInBounds 0 Value.none)) (Ne.symm hb)).trans e
  rw [Heap.get?_update_other _ _ (Nat.ne_of_gt (Heap.lt_size (Heap.get?_push_of_some _ e2)))]
  exact Heap.get?_push_of_some _ (Heap.get?_push_of_some _ e2)
theorem unpack_hot {t x1 : Addr} {items : Array Value} {targets : List (Bool × (Value → Sem Unit))} {Q : Unit → Shared → Prop} (hot : HotAt A x1 s.heap) (ht : IsTup s.heap t items)
    (hn : targets.length = items.size) (hstar : targets.findIdx? (·.1) = none)
    (h : ∀ h', Heap.ExtBut s.heap.objs.size s.heap h' → wpAny (model prog w) A (assignInOrder (targets.map (·.2)) items.toList) Q E { s with heap := h' }) :
    wpAny (model prog w) A (unpack (.ref t) targets) Q E s := by
  have hlt : t ≠ s.heap.objs.size := by obtain ⟨o, ho, _⟩ := ht; exact Nat.ne_of_lt (Heap.lt_size ho)
  obtain ⟨hh, o1, vs1, h1, d1, c1⟩ := hot
  have hx1 : s.heap.objs.size ≠ x1 := Nat.ne_of_gt (Heap.lt_size h1)
  unfold unpack
  rw [hn, hstar]
  refine wpAny_bind (wpAny_holding ?_)
  unfold unpackItems
  refine wpAny_bind ?_
  unfold notIterableAtAll
  refine wpAny_bind (wpAny_specialOf ht.typeIs slot_tuple_iter.lookup ?_)
  refine wpAny_pure ?_
  simp only [Bool.false_eq_true, if_false]
  refine wpAny_bind (wpAny_holding (iter_tuple ht ?_))
  refine wpAny_bind (wpAny_holding (draw_tuple hlt items.size 0 _ _ ⟨_, Heap.get?_push_size _ rfl, rfl, rfl⟩ (ht.push _) (by omega) fun h₁ hit₁ hs₁ => ?_))
  have hall : List.take items.size (List.drop 0 items.toList) = items.toList := by
    rw [List.drop_zero]; exact List.take_of_length_le (by simp)
  rw [hall]
  rw [if_neg (by simp)]
  have ht₁ : IsTup h₁ t items := (ht.push _).extBut hs₁.extBut hlt
  have g1 : h₁.get? x1 = some o1 := hs₁.extBut x1 o1 (Ne.symm hx1) (Heap.get?_push_of_some _ h1)
  refine wpAny_bind (wpAny_holding (tup_end_hot (x1 := x1) ⟨hh, o1, vs1, g1, d1, c1⟩ hx1 hit₁ ht₁ (by simp) fun h₂ he₂ => ?_))
  simp only [Option.isSome_none, Bool.false_eq_true, if_false]
  exact wpAny_pure (h h₂ fun b o hb e => he₂ b o hb (hs₁.extBut b o hb (Heap.get?_push_of_some _ e)))
end
section
variable {X : Cx}
/-- (a, b, ..) = a tuple of that length, an exception being handled -/
theorem pg_tupH {es : List Expr} {k : Nat} {pos : Pos} {t : TGs} {n : Nat} (hc : L2H.HotC X) (h : PGs X es t)
    (hn : (assignEach es X.env).length = n := by rfl) (hst : (assignEach es X.env).findIdx? (·.1) = none := by rfl) : PG X (.Tuple es k pos) (gTup X.K n t) := by
  refine ⟨fun pins s σ H v u Q I r hw => ?_⟩
  obtain ⟨a, xs, e1, hq, hl, hw⟩ := hw
  subst e1
  cases r
  obtain ⟨its, rv, ht, hz⟩ := I.tuple hq
  obtain ⟨x1, hot⟩ := hc.at I
  rw [assign_Tuple]
  refine wpAny_bind (wpAny_standAt (unpack_hot hot ht (by simp [hn, ← hl, rv.length]) hst fun h' hx => ?_))
  have I1 : Inv X pins σ H { s with heap := h' } := I.kept (t' := s.toks) fun b o e => hx b o (Nat.ne_of_lt (Heap.lt_size e)) e
  exact h.run pins _ σ H xs _ Q I1 (by simpa using rv) hw
end
/-- a def of data, called while an exception is handled -/
abbrev FnHD (P : Program) (w : World) (K : PySem.W.Frag) (mg : Str → Option Value) (base : Heap) (k : Nat) (f : Addr) (fd : FuncData) (ps : List Str) (sp : Sp) : Prop := L2H.FnH P w K mg base CX0 k f fd ps sp
section
variable {P : Program} {w : World} {K : PySem.W.Frag} {mg : Str → Option Value} {base : Heap}
theorem fnH_data {x qual : Str} {st : Stmt} {f : Addr} {fd : FuncData} {Nm ps : List Str} {k n N : Nat} {body : Rh → Option Out}
    (F : Fun K x qual st f fd) (S : FnScope Nm ps (defScope st)) (hn : ps.length = n) (hN : Nm.length = N)
    (h : ∀ (cdv : Value) (A : Around) (outer : List PySem.Env) (s : Shared) (H : Hp) (E : XK) (p : Addr × Obj), L2H.Hot1 A p → L2H.RoomH k (A.deeper (envOfC qual (defScope st) s.heap.objs.size f cdv)) →
      ∃ t, PSs (L2H.cxH CX0 P w K mg base Nm qual (defScope st) f cdv A outer s H E p).nox (defBody st) t ∧ SOk K (fun _ _ => False) t body) : FnHD P w K mg base (k + 1) f fd ps (spD K n (fnD n N body)) := by
  obtain ⟨oc, od, kV, doc, pm, an, cdv, ct, osl, rfl, lk, hcd⟩ := F.ex
  refine L2H.fn_ofH lk hcd S (fun vs H Q E hs => hs.1.trans hn.symm) fun A outer s H vs Q E p hot hr hs => ?_
  obtain ⟨t, ht, hb⟩ := h cdv A outer s H E p hot hr
  obtain ⟨hv, ds, r, Z, hz, hd, hgd, q⟩ := hs
  refine ⟨t, ht.nox, ?_⟩
  unfold fnD at hgd
  by_cases hl : ds.length = n
  case neg => rw [if_neg hl] at hgd; cases hgd
  rw [if_pos hl] at hgd
  have c := start_cor (Nm := Nm) hz hd hl hN
  split at hgd
  · rename_i r' hb'
    cases hgd
    exact hb H Z Z _ _ _ H _ hb' c fun v H' s' v' => q v H' s' v'
  · rename_i ρ' hb'
    cases hgd
    exact hb H Z Z _ _ _ H _ hb' c fun O' σ' H' c' _ => q _ H' c'.bs.same .none
  · cases hgd
/-- nothing comes out of such a def -/
theorem pass00 {X : Cx} {E : L2.St → XK} (σ : L2.St) : PassesAt CX0 X σ (E σ) := fun _ _ _ _ _ _ h => h.elim
/-- the context bears it -/
theorem hot_h {CX : CXT} {Nm : List Str} {qual : Str} {scope : Scope} {f : Addr} {cd : Value} {A : Around} {outer : List PySem.Env} {s : Shared} {H : Hp} {E : XK} {p : Addr × Obj} (h : L2H.Hot1 A p) :
    L2H.HotC (L2H.cxH CX P w K mg base Nm qual scope f cd A outer s H E p).nox := ⟨p, h, List.mem_cons_self⟩
theorem hot_s {X : Cx} {a : Addr} {oe : Obj} {cls : Value} {d : Option Addr} {pn : List (Addr × Obj)} (hz : L2N.Zn cls d oe) (hf : ∃ vs, oe.data = .fields vs) : L2H.HotC (X.suite a ((a, oe) :: pn)) := by
  obtain ⟨vs, e⟩ := hf
  exact ⟨(a, oe), ⟨rfl, vs, e, hz.2.2 vs e⟩, List.mem_cons_self⟩
theorem eok_fnH {n : Nat} {g : List PyData → Option Res} {t : TA} {as : Rh → Option (List Res)} {E : L2.St → XK} (ha : AOk K t as) (hn : ∀ ρ rs, as ρ = some rs → rs.length = n) : EOk K (tCallS (spD K n g) E t) (eFn g as) := eok_fn ha hn
end
end F3
set_option maxRecDepth 100000
set_option maxHeartbeats 2000000
/-! Ex6: the facts of exception classes, from what k_is tells -/
namespace F3
open PySem PySem.Spec PySem.W PyProof.Rows L2
variable {K : Frag}
theorem kit_ref {C D : Addr} {b : Bool} (hdct : hasDictIn K D = true) (ht : typeIn K (.ref D) = some (.type "type")) (h4 : subIn K (.ref C) (.ref D) = some b) (hs : subIn K (.ref C) (.ref C) = some true) : kitOne K (.ref C) (.ref D) = some b := by
  unfold kitOne
  by_cases he : (Value.ref C == Value.ref D) = true
  · rw [if_pos he]
    have e : C = D := Value.ref.inj (beq_iff_eq.mp he)
    subst e
    rw [hs] at h4
    exact h4
  · rw [if_neg he]
    obtain ⟨cd, hc, _⟩ := any_some hdct
    have e2 : ((clsIn K D).isSome && typeIn K (.ref D) == some (.type "type")) = true := by rw [hc, ht] <;> rfl
    show (if ((clsIn K D).isSome && typeIn K (.ref D) == some (.type "type")) = true then subIn K (.ref C) (.ref D) else none) = some b
    rw [if_pos e2]
    exact h4
theorem kit_ve {C : Addr} {b : Bool} (h : subIn K (.ref C) (.type "ValueError") = some b) : kitOne K (.ref C) (.type "ValueError") = some b := by
  unfold kitOne
  rw [if_neg (show ¬ ((Value.ref C == Value.type "ValueError") = true) from Bool.false_ne_true)]
  exact h
theorem sup_of {C E : Addr} {cd ce : ClassData} {bm : List Value} (h1 : clsIn K C = some cd) (h2 : cd.mro = .ref C :: bm) (h3 : clsIn K E = some ce) (h4 : ce.mro = bm) (h5 : findIn K (.ref E) "__init__" = some (some (.builtin "ValueError.__init__"))) : ks_superIn K C C "__init__" = some (some (.builtin "ValueError.__init__")) := by
  unfold ks_superIn
  rw [h1, Option.bind_some, h2, show ((Value.ref C :: bm).dropWhile (· != .ref C)).drop 1 = bm by simp [List.dropWhile_cons]]
  unfold findIn at h5
  unfold clsIn at h3
  split at h3
  · rename_i ho
    cases h3
    simp only [ho] at h5
    rw [← h4]
    exact h5
  · cases h3
/-- raise X(), in a def that may raise -/
theorem sok_raiseD {K : Frag} {E : XK} {cl : Str → Value} {C : Addr} (t : Str) (h : cl t = .ref C) : SOk K (fun t H' => E (cl t) none H') (fun _ σ H => E (.ref C) none H) (sRaise t) := fun H0 Z O ρ o σ H D e c q => by
  cases e
  have : E (cl t) none H := q H c.bs.same
  rw [h] at this
  exact this
theorem ruH64 {k : Nat} {A : Around} (r : L2H.RoomH k A) : A.units + 64 < cLine := by have := r.un; omega
theorem ruH65 {k : Nat} {A : Around} (r : L2H.RoomH k A) : A.units + 65 < cLine := by have := r.un; omega
theorem room_s {j k : Nat} {A : Around} {x : Option Value} (r : Room k A) (h : j ≤ k) : L2H.RoomH j (A.mark x) := ⟨(r.mono h).dp, (r.mono h).un⟩
theorem takesN0 {X : Cx} : L2N.Takes X (fun _ _ _ _ => False) := fun _ _ x => by
  obtain ⟨_, _, _, _, _, _, _, _, _, _, _, _, _, _, _, _, z⟩ := x
  exact z.elim
theorem bt_ValueError : bootBuiltins "ValueError" = some (.type "ValueError") := by decide +kernel
end F3
set_option maxRecDepth 100000
set_option maxHeartbeats 2000000
/-! Ex7: sorted, of a list of data of one shape -/
namespace F3
open PySem PySem.Spec PySem.W PyProof.Rows L2
/-- one shape, and what may be sorted -/
def oneShape (ds : List PyData) : Bool := ds.all (fun d => ds.all (fun e => alike d e)) && ((ds.all fun d => match d with | .tuple (_ :: _) => true | _ => false) || (ds.all fun d => match d with | .none => false | .tuple _ => false | _ => true)) && ds.all (fun d => decide (d.depth ≤ 60))
theorem oneShape_ok {ds : List PyData} (h : oneShape ds = true) : AllAlike ds ∧ Sortable ds ∧ ∀ d ∈ ds, d.depth ≤ 60 := by
  unfold oneShape at h
  rw [Bool.and_eq_true, Bool.and_eq_true] at h
  obtain ⟨⟨h1, h2⟩, h3⟩ := h
  refine ⟨fun d hd e he => List.all_eq_true.mp (List.all_eq_true.mp h1 d hd) e he, ?_, fun d hd => of_decide_eq_true (List.all_eq_true.mp h3 d hd)⟩
  rcases Bool.or_eq_true_iff.mp h2 with h | h
  · refine .inl fun d hd => ?_
    have := List.all_eq_true.mp h d hd
    split at this
    · exact ⟨_, _, rfl⟩
    · cases this
  · refine .inr fun d hd => ?_
    have := List.all_eq_true.mp h d hd
    cases d with
    | none => cases this
    | tuple xs => cases this
    | _ => exact ⟨nofun, nofun⟩
def srt (ds : List PyData) : List PyData := ds.mergeSort (dataLe false id)
def rSortD (K : PySem.W.Frag) : List V → Hp → VK → Prop := fun vs H Q => ∃ (a : Addr) (xs : List V) (ds : List PyData), vs = [V.ref a] ∧ SqL K H a xs ∧ DpAll K H xs ds ∧ oneShape ds = true ∧
  ∀ (ys : List V) (p : Addr), ys.length = ds.length → (∀ q ∈ ys.zip (srt ds), q ∈ xs.zip ds) → H p = none → Q (.ref p) (upd H p (.lst ys))
section
variable {X : Cx} {K : PySem.W.Frag}
theorem each_vals : ∀ {xs : List V} {us : List Value} {ds : List PyData}, Vals xs us → xs.length = ds.length → EachIs (fun u d => ∃ x, RelV x u ∧ (x, d) ∈ xs.zip ds) us ds
  | _, _, [], .nil, _ => .nil
  | _, _, _ :: _, .nil, h => nomatch h
  | x :: xs, _ :: us, d :: ds, .cons r t, h => by
    refine .cons ⟨x, r, by simp⟩ ((each_vals t (Nat.succ.inj h)).mono ?_)
    rintro u e ⟨y, r1, m⟩
    exact ⟨y, r1, by rw [List.zip_cons_cons]; exact List.mem_cons_of_mem _ m⟩
theorem vals_each {R : V → PyData → Prop} : ∀ {us : List Value} {ds : List PyData}, EachIs (fun u d => ∃ x, RelV x u ∧ R x d) us ds → ∃ ys, Vals ys us ∧ ys.length = ds.length ∧ ∀ q ∈ ys.zip ds, R q.1 q.2
  | _, _, .nil => ⟨[], .nil, rfl, nofun⟩
  | _ :: _, _ :: _, .cons ⟨x, r, m⟩ t => by
    obtain ⟨ys, h1, h2, h3⟩ := vals_each t
    refine ⟨x :: ys, .cons r h1, by rw [List.length_cons, List.length_cons, h2], fun q hq => ?_⟩
    rw [List.zip_cons_cons] at hq
    rcases List.mem_cons.mp hq with rfl | hq
    · exact m
    · exact h3 q hq
theorem each_reads : ∀ {us : List Value} {ds : List PyData} {h : Heap} {as : List Addr}, ReadsAll h us ds as → EachIs (fun u d => ∃ as, Reads h u d as) us ds := fun {us ds h as} r => by
  have := readsAll_each (h := h) (id : PyData → PyData) (vs := us) (bs := ds) (as := as) (by rw [List.map_id]; exact r)
  exact this
theorem bt_sorted : bootBuiltins "sorted" = some (.builtin "sorted") := by decide +kernel
theorem call_sortD (hu : X.A.units + 66 < cLine) : CallR X (.builtin "sorted") (rSortD X.K) := by
  intro pins s σ H vs us Q I r h
  obtain ⟨a, xs, ds, rfl, hs, hd, hk, q⟩ := h
  obtain ⟨h1, h2, h3⟩ := oneShape_ok hk
  obtain ⟨its, rv, hl, hz⟩ := I.list hs
  rw [Vals.ref1 r]
  obtain ⟨as, hr⟩ := Dp.readsAll I ds _ its hd rv
  have hlen := dpa_len hd
  refine sorted_data (R := fun u d => ∃ x, RelV x u ∧ (x, d) ∈ xs.zip ds) (enc := id) hl.isList (each_vals rv hlen) (each_reads hr) (by rw [List.map_id]; exact h1) (by rw [List.map_id]; exact h2) (by rw [← hlen]; exact hz) (fun d hm => ?_) fun out e1 e2 => ?_
  · have := h3 d hm
    show X.A.units + 2 + d.depth < cLine
    omega
  · obtain ⟨ys, y1, y2, y3⟩ := vals_each e2
    have yl : ys.length = ds.length := by rw [y2, List.length_mergeSort]
    obtain ⟨ep, he'⟩ := PyProof.Rows.sortedAll_at s.heap its out.toArray
    refine ⟨.ref _, upd H (s.heap.objs.size + 1) (.lst ys), I.laid (t' := s.toks) (fun _ _ => PyProof.Rows.sortedAll_old) (Nat.le_succ _) ⟨by rw [yl, ← hlen]; exact hz, out, ep, y1, he'⟩, rfl, q ys _ yl y3 (I.hok.fresh (Nat.le_succ _))⟩
def sortR (a : Res) : Option Res := match a.lst with
  | some ds => if oneShape ds = true then some (.fr (srt ds)) else none
  | none => none
theorem dpa_zip {H : Hp} : ∀ {xs : List V} {ds : List PyData}, DpAll K H xs ds → ∀ q ∈ xs.zip ds, Dp K H q.1 q.2
  | _, _, .nil, _, h => nomatch h
  | _ :: _, _ :: _, .cons d t, q, h => by
    rw [List.zip_cons_cons] at h
    rcases List.mem_cons.mp h with rfl | h
    · exact d
    · exact dpa_zip t q h
theorem zip_dpa {H : Hp} : ∀ {xs : List V} {ds : List PyData}, xs.length = ds.length → (∀ q ∈ xs.zip ds, Dp K H q.1 q.2) → DpAll K H xs ds
  | [], [], _, _ => .nil
  | [], _ :: _, h, _ => nomatch h
  | _ :: _, [], h, _ => nomatch h
  | x :: xs, d :: ds, h, g => .cons (g (x, d) (by simp)) (zip_dpa (Nat.succ.inj h) fun q hq => g q (by rw [List.zip_cons_cons]; exact List.mem_cons_of_mem _ hq))
theorem cr_sortD : CRok K (rSortD K) (on1 sortR) := cr_1 fun H0 Z O Hs H x a c Q e bs sm v k => by
  unfold sortR at e
  cases h : a.lst with
  | none => rw [h] at e; cases e
  | some ds =>
    rw [h] at e
    obtain ⟨hk, rfl⟩ := ite_some e
    obtain ⟨p, vs, rfl, hs, hd⟩ := v.lst h
    refine ⟨p, vs, ds, rfl, hs, dpa_mono off_le ds vs hd, hk, fun ys l yl hy hl => k _ _ (same_new hl) (Vl.newL bs sm hl ?_)⟩
    exact zip_dpa (by rw [yl]; exact (List.length_mergeSort _).symm) fun q hq => dpa_zip hd q (hy q hq)
end
end F3
set_option maxRecDepth 100000
set_option maxHeartbeats 2000000
/-! Ex8: a def that may raise, called where it hands back -/
namespace F3
open PySem PySem.Spec PySem.W PyProof.Rows L2
section
variable {P : Program} {w : World} {K : PySem.W.Frag} {mg : Str → Option Value} {base : Heap} {k : Nat} {f : Addr} {fd : FuncData} {ps : List Str}
def okD (g : List PyData → Option RX) (ds : List PyData) : Option Res := match g ds with
  | some (.ok r) => some r
  | _ => none
theorem toG {cl : Str → Value} {n : Nat} {g : List PyData → Option RX} (F : FnX P w K mg base k f fd ps (spX K cl n g)) (hn : ps.length = n) : FnG P w K mg base k f fd ps (spD K n (okD g)) := by
  refine ⟨fun vs H Q E h => h.1.trans hn.symm, fun A outer s H args us vs Q hr hg e0 hb r hsp => ?_⟩
  obtain ⟨h1, ds, o, Z, hz, hd, hg', q⟩ := hsp
  have hx : g ds = some (.ok o) := by
    unfold okD at hg'
    split at hg'
    · rename_i r' e
      cases hg'
      exact e
    · cases hg'
  refine codeAny_mono (F.run A outer s H args us vs Q E0 hr hg e0 hb r ⟨h1, ds, .ok o, Z, hz, hd, hx, fun r' e => ?_, fun t e => nomatch e⟩) fun r' s' h => ?_
  · cases e
    exact q
  · cases r' with
    | ok fl => cases fl <;> exact h
    | error e =>
      obtain ⟨a, B, H', cls, d, _, _, _, _, _, _, _, hE⟩ := h
      exact hE.elim
end
end F3
set_option maxRecDepth 100000
set_option maxHeartbeats 2000000
/-! Ex9: lists lent to a test, which keeps nothing of them -/
namespace F3
open PySem PySem.Spec PySem.W PyProof.Rows L2
@[simp] def tLnd (is : List Nat) (f : Rh → Option Bool) : Rh → Option Bool := fun ρ => f (frzD ρ is)
theorem tok_lend {K : PySem.W.Frag} {t : TT} {f : Rh → Option Bool} (is : List Nat) (h : TOk K t f) : TOk K t (tLnd is f) := fun H0 Z O ρ b σ H Q e c q => by
  obtain ⟨O', c', _⟩ := Cor.frz is c
  exact h H0 Z O' (frzD ρ is) b σ H Q e c' q
end F3
set_option maxRecDepth 100000
set_option maxHeartbeats 1000000
/-! two by two matrices of ints, sizes -/
namespace F3
open PySem L2
/-! ### sizes -/
def Bd (n : Nat) (i : Int) : Prop := i.natAbs < 2 ^ n
theorem Bd.mono {n m : Nat} {i : Int} (h : Bd n i) (hm : n ≤ m) : Bd m i := Nat.lt_of_lt_of_le h (Nat.pow_le_pow_right (by decide) hm)
theorem Bd.neg {n : Nat} {i : Int} (h : Bd n i) : Bd n (-i) := by unfold Bd at *; rwa [Int.natAbs_neg]
theorem Bd.mul {n m : Nat} {i j : Int} (h : Bd n i) (g : Bd m j) : Bd (n + m) (i * j) := by
  unfold Bd at *
  rw [Int.natAbs_mul, Nat.pow_add]
  exact Nat.mul_lt_mul'' h g
theorem Bd.add {n : Nat} {i j : Int} (h : Bd n i) (g : Bd n j) : Bd (n + 1) (i + j) := by
  unfold Bd at *
  have := Int.natAbs_add_le i j
  rw [Nat.pow_succ]
  omega
theorem Bd.sub {n : Nat} {i j : Int} (h : Bd n i) (g : Bd n j) : Bd (n + 1) (i - j) := by
  rw [Int.sub_eq_add_neg]
  exact h.add g.neg
theorem Bd.log {n : Nat} {i : Int} (h : Bd n i) (h0 : 0 < n) : i.natAbs.log2 < n := by
  unfold Bd at h
  by_cases z : i.natAbs = 0
  · rw [z]; simpa using h0
  · exact (Nat.log2_lt z).mpr h
theorem Bd.log' {n : Nat} {i : Int} (h : Bd n i) : i.natAbs.log2 ≤ n := by
  have := (h.mono (Nat.le_succ n)).log (by omega)
  omega
theorem mulOk_of {i j : Int} {n m : Nat} (hi : Bd n i) (hj : Bd m j) (h : n + m < 1000000) : mulOk i j := by
  have h1 := hi.log'
  have h2 := hj.log'
  unfold mulOk
  omega
theorem divOk_of {j : Int} {n : Nat} (h0 : 0 < j) (hj : Bd n j) (h : n < 9000) : divOk j := ⟨h0, Nat.lt_of_le_of_lt hj.log' h⟩
theorem bd_of {n : Nat} {i : Int} (h1 : -(2 ^ n : Int) < i) (h2 : i < 2 ^ n) : Bd n i := by
  unfold Bd
  have e : ((2 ^ n : Nat) : Int) = (2 : Int) ^ n := by simp
  omega
theorem Bd.lt {n : Nat} {i : Int} (h : Bd n i) : i < 2 ^ n := by
  unfold Bd at h
  have e : ((2 ^ n : Nat) : Int) = (2 : Int) ^ n := by simp
  omega
theorem Bd.gt {n : Nat} {i : Int} (h : Bd n i) : -(2 ^ n : Int) < i := by
  unfold Bd at h
  have e : ((2 ^ n : Nat) : Int) = (2 : Int) ^ n := by simp
  omega
/-! ### matrices -/
structure M where
  a : Int
  b : Int
  c : Int
  d : Int
  deriving DecidableEq
namespace M
def D (m : M) : PyData := .tuple [.int m.a, .int m.b, .int m.c, .int m.d]
def mul (x y : M) : M := ⟨x.a * y.a + x.b * y.c, x.a * y.b + x.b * y.d, x.c * y.a + x.d * y.c, x.c * y.b + x.d * y.d⟩
instance : Mul M := ⟨mul⟩
def one : M := ⟨1, 0, 0, 1⟩
def inv (m : M) : M := ⟨m.d, -m.b, -m.c, m.a⟩
def det (m : M) : Int := m.a * m.d - m.b * m.c
def tr (m : M) : Int := m.a + m.d
def bd (n : Nat) (m : M) : Prop := Bd n m.a ∧ Bd n m.b ∧ Bd n m.c ∧ Bd n m.d
theorem mul_def (x y : M) : x * y = ⟨x.a * y.a + x.b * y.c, x.a * y.b + x.b * y.d, x.c * y.a + x.d * y.c, x.c * y.b + x.d * y.d⟩ := rfl
@[ext] theorem ext' {x y : M} (h1 : x.a = y.a) (h2 : x.b = y.b) (h3 : x.c = y.c) (h4 : x.d = y.d) : x = y := by
  cases x; cases y; simp_all
theorem mul_assoc (x y z : M) : x * y * z = x * (y * z) := by
  simp only [mul_def]
  ext <;> simp only [] <;> simp only [Int.add_mul, Int.mul_add, Int.mul_assoc] <;> omega
theorem one_mul (x : M) : one * x = x := by
  simp only [mul_def, one]
  ext <;> simp
theorem mul_one (x : M) : x * one = x := by
  simp only [mul_def, one]
  ext <;> simp
theorem mul_inv {x : M} (h : x.det = 1) : x * x.inv = one := by
  unfold det at h
  simp only [mul_def, one, inv]
  have h1 := Int.mul_comm x.a x.d
  have h2 := Int.mul_comm x.b x.c
  have h3 := Int.mul_comm x.a x.b
  have h4 := Int.mul_comm x.c x.d
  ext <;> simp only [Int.mul_neg] <;> omega
theorem inv_mul {x : M} (h : x.det = 1) : x.inv * x = one := by
  unfold det at h
  simp only [mul_def, one, inv]
  have h1 := Int.mul_comm x.a x.d
  have h2 := Int.mul_comm x.b x.c
  have h3 := Int.mul_comm x.b x.d
  have h4 := Int.mul_comm x.c x.a
  ext <;> simp only [Int.neg_mul] <;> omega
theorem det_mul (x y : M) : (x * y).det = x.det * y.det := by
  simp only [det, mul_def]
  have e : ∀ p q r s t u v w : Int, (p * t + q * v) * (r * u + s * w) - (p * u + q * w) * (r * t + s * v) = (p * s - q * r) * (t * w - u * v) := by
    intro p q r s t u v w
    simp only [Int.sub_mul, Int.mul_sub, Int.add_mul, Int.mul_add]
    have c1 : p * t * (r * u) = p * u * (r * t) := by ac_rfl
    have c2 : p * t * (s * w) = p * s * (t * w) := by ac_rfl
    have c3 : q * v * (r * u) = q * r * (u * v) := by ac_rfl
    have c4 : q * v * (s * w) = q * w * (s * v) := by ac_rfl
    have c5 : p * u * (s * v) = p * s * (u * v) := by ac_rfl
    have c6 : q * w * (r * t) = q * r * (t * w) := by ac_rfl
    omega
  exact e _ _ _ _ _ _ _ _
theorem det_inv (x : M) : x.inv.det = x.det := by
  simp only [det, inv, Int.neg_mul, Int.mul_neg, Int.neg_neg]
  rw [Int.mul_comm]
theorem inv_inv (x : M) : x.inv.inv = x := by
  simp only [inv, Int.neg_neg]
theorem inv_mul_rev (x y : M) : (x * y).inv = y.inv * x.inv := by
  simp only [inv, mul_def]
  ext <;> simp only [Int.neg_mul, Int.mul_neg, Int.neg_neg, Int.neg_add] <;> (try simp only [Int.mul_comm]) <;> omega
theorem tr_comm (x y : M) : (x * y).tr = (y * x).tr := by
  simp only [tr, mul_def]
  have h1 := Int.mul_comm x.a y.a
  have h2 := Int.mul_comm x.b y.c
  have h3 := Int.mul_comm x.c y.b
  have h4 := Int.mul_comm x.d y.d
  omega
/-- turned by h -/
def by_ (h x : M) : M := h * x * h.inv
theorem by_lead {h x : M} (hd : h.det = 1) : h * x = by_ h x * h := by
  unfold by_
  rw [mul_assoc, inv_mul hd, mul_one]
theorem by_tr {h : M} (hd : h.det = 1) (x : M) : (by_ h x).tr = x.tr := by
  unfold by_
  rw [tr_comm, ← mul_assoc, inv_mul hd, one_mul]
theorem by_det {h : M} (hd : h.det = 1) (x : M) : (by_ h x).det = x.det := by
  unfold by_
  rw [det_mul, det_mul, det_inv, hd, Int.one_mul, Int.mul_one]
theorem bd.mono {n m : Nat} {x : M} (h : x.bd n) (hm : n ≤ m) : x.bd m := ⟨h.1.mono hm, h.2.1.mono hm, h.2.2.1.mono hm, h.2.2.2.mono hm⟩
theorem bd.mul {n m : Nat} {x y : M} (h : x.bd n) (g : y.bd m) : (x * y).bd (n + m + 1) := by
  obtain ⟨h1, h2, h3, h4⟩ := h
  obtain ⟨g1, g2, g3, g4⟩ := g
  exact ⟨(h1.mul g1).add (h2.mul g3), (h1.mul g2).add (h2.mul g4), (h3.mul g1).add (h4.mul g3), (h3.mul g2).add (h4.mul g4)⟩
theorem bd.inv {n : Nat} {x : M} (h : x.bd n) : x.inv.bd n := ⟨h.2.2.2, h.2.1.neg, h.2.2.1.neg, h.1⟩
theorem bd.by_ {n m : Nat} {x y : M} (h : x.bd n) (g : y.bd m) : (M.by_ x y).bd (n + m + 1 + n + 1) := (h.mul g).mul h.inv
theorem D_inj {x y : M} (h : x.D = y.D) : x = y := by
  unfold D at h
  cases x; cases y
  simp at h
  simp [h]
end M
theorem eqD_M (x y : M) : eqD x.D y.D = some (decide (x = y)) := by
  have e : eqD x.D y.D = some (PyData.eqv x.D y.D) := by
    simp [eqD, M.D, PyData.canLayAll0, PyData.canLay0, PyData.depthAll, PyData.depth]
  rw [e]
  congr 1
  rw [Bool.eq_iff_iff]
  simp only [M.D, PyData.eqv, PyData.eqvAll, decide_eq_true_eq, Bool.and_eq_true, beq_iff_eq, and_true]
  constructor
  · intro ⟨h1, h2, h3, h4⟩
    exact M.ext' h1 h2 h3 h4
  · intro h
    subst h
    exact ⟨rfl, rfl, rfl, rfl⟩
end F3
set_option maxRecDepth 100000
set_option maxHeartbeats 1000000
/-! data that may be shown: sizes -/
namespace F3
open PySem L2
instance (n : Nat) (i : Int) : Decidable (Bd n i) := inferInstanceAs (Decidable (_ < _))
abbrev IB : Nat := 1700
mutual
/-- each int below 2 ^ 1700, each text short -/
def okB : PyData → Bool
  | .none | .bool _ => true
  | .int i => decide (Bd IB i)
  | .str x => decide (x.length ≤ 600) && PyData.strOk x
  | .list xs | .tuple xs => okL xs
  | .dict _ => false
def okL : List PyData → Bool
  | [] => true
  | x :: xs => okB x && okL xs
end
mutual
/-- how many nodes -/
def cn : PyData → Nat
  | .none | .bool _ | .int _ => 1
  | .str x => 1 + x.length
  | .list xs | .tuple xs => cnL xs + 1
  | .dict _ => 1
def cnL : List PyData → Nat
  | [] => 0
  | x :: xs => cn x + cnL xs
end
@[simp] theorem okB_n : okB .none = true := by simp only [okB]
@[simp] theorem okB_b {b : Bool} : okB (.bool b) = true := by simp only [okB]
@[simp] theorem okB_i {i : Int} : okB (.int i) = decide (Bd IB i) := by simp only [okB]
@[simp] theorem okB_s {x : Str} : okB (.str x) = (decide (x.length ≤ 600) && PyData.strOk x) := by simp only [okB]
@[simp] theorem okB_l {ds : List PyData} : okB (.list ds) = okL ds := by simp only [okB]
@[simp] theorem okB_t {ds : List PyData} : okB (.tuple ds) = okL ds := by simp only [okB]
@[simp] theorem okL_n : okL [] = true := by simp only [okL]
@[simp] theorem okL_c {d : PyData} {ds : List PyData} : okL (d :: ds) = (okB d && okL ds) := by simp only [okL]
@[simp] theorem cn_n : cn .none = 1 := by simp only [cn]
@[simp] theorem cn_b {b : Bool} : cn (.bool b) = 1 := by simp only [cn]
@[simp] theorem cn_i {i : Int} : cn (.int i) = 1 := by simp only [cn]
@[simp] theorem cn_s {x : Str} : cn (.str x) = 1 + x.length := by simp only [cn]
@[simp] theorem cn_l {ds : List PyData} : cn (.list ds) = cnL ds + 1 := by simp only [cn]
@[simp] theorem cn_t {ds : List PyData} : cn (.tuple ds) = cnL ds + 1 := by simp only [cn]
@[simp] theorem cnL_n : cnL [] = 0 := by simp only [cnL]
@[simp] theorem cnL_c {d : PyData} {ds : List PyData} : cnL (d :: ds) = cn d + cnL ds := by simp only [cnL]
@[simp] theorem dpA_n : PyData.depthAll [] = 0 := by simp only [PyData.depthAll]
@[simp] theorem dpA_c {d : PyData} {ds : List PyData} : PyData.depthAll (d :: ds) = max d.depth (PyData.depthAll ds) := by simp only [PyData.depthAll]
@[simp] theorem dp_n : PyData.depth .none = 0 := by simp only [PyData.depth]
@[simp] theorem dp_b {b : Bool} : PyData.depth (.bool b) = 0 := by simp only [PyData.depth]
@[simp] theorem dp_i {i : Int} : PyData.depth (.int i) = 0 := by simp only [PyData.depth]
@[simp] theorem dp_s {x : Str} : PyData.depth (.str x) = 0 := by simp only [PyData.depth]
@[simp] theorem dp_l {ds : List PyData} : PyData.depth (.list ds) = PyData.depthAll ds + 1 := by simp only [PyData.depth]
@[simp] theorem dp_t {ds : List PyData} : PyData.depth (.tuple ds) = PyData.depthAll ds + 1 := by simp only [PyData.depth]
@[simp] theorem okL_app : ∀ {xs ys : List PyData}, okL (xs ++ ys) = (okL xs && okL ys)
  | [], ys => by simp
  | x :: xs, ys => by simp [okL_app (xs := xs), Bool.and_assoc]
@[simp] theorem cnL_app : ∀ {xs ys : List PyData}, cnL (xs ++ ys) = cnL xs + cnL ys
  | [], ys => by simp
  | x :: xs, ys => by simp [cnL_app (xs := xs), Nat.add_assoc]
@[simp] theorem dpA_app : ∀ {xs ys : List PyData}, PyData.depthAll (xs ++ ys) = max (PyData.depthAll xs) (PyData.depthAll ys)
  | [], ys => by simp
  | x :: xs, ys => by simp [dpA_app (xs := xs), Nat.max_assoc]
theorem okL_iff : ∀ {ds : List PyData}, okL ds = true ↔ ∀ d ∈ ds, okB d = true
  | [] => by simp
  | d :: ds => by simp [okL_iff (ds := ds)]
theorem cnL_mem : ∀ {ds : List PyData} {d : PyData}, d ∈ ds → cn d ≤ cnL ds
  | d :: ds, e, h => by
    rcases List.mem_cons.mp h with rfl | h
    · simp
    · have := cnL_mem h
      simp
      omega
theorem cn_pos : ∀ d : PyData, 1 ≤ cn d := fun d => by cases d <;> simp [cn]
theorem cnL_len : ∀ ds : List PyData, ds.length ≤ cnL ds
  | [] => by simp
  | d :: ds => by
    have := cnL_len ds
    have := cn_pos d
    simp
    omega
theorem dpA_mem : ∀ {ds : List PyData} {d : PyData}, d ∈ ds → d.depth ≤ PyData.depthAll ds
  | d :: ds, e, h => by
    rcases List.mem_cons.mp h with rfl | h
    · simp; omega
    · have := dpA_mem h
      simp
      omega
theorem dpA_le : ∀ {ds : List PyData} {n : Nat}, (∀ d ∈ ds, d.depth ≤ n) → PyData.depthAll ds ≤ n
  | [], n, _ => by simp
  | d :: ds, n, h => by
    have h1 := h d List.mem_cons_self
    have h2 := dpA_le (ds := ds) (n := n) fun e he => h e (List.mem_cons_of_mem _ he)
    simp
    omega
/-! sublists -/
theorem cnL_take (n : Nat) : ∀ ds : List PyData, cnL (ds.take n) ≤ cnL ds := fun ds => by
  have h : cnL ds = cnL (ds.take n) + cnL (ds.drop n) := by rw [← cnL_app, List.take_append_drop]
  omega
theorem cnL_drop (n : Nat) : ∀ ds : List PyData, cnL (ds.drop n) ≤ cnL ds := fun ds => by
  have h : cnL ds = cnL (ds.take n) + cnL (ds.drop n) := by rw [← cnL_app, List.take_append_drop]
  omega
theorem cut_mem {ds : List PyData} {lo hi : Option Int} {d : PyData} (h : d ∈ cutD ds lo hi) : d ∈ ds := List.mem_of_mem_drop (List.mem_of_mem_take h)
theorem cnL_cut (ds : List PyData) (lo hi : Option Int) : cnL (cutD ds lo hi) ≤ cnL ds := Nat.le_trans (cnL_take _ _) (cnL_drop _ _)
theorem okL_cut {ds : List PyData} (lo hi : Option Int) (h : okL ds = true) : okL (cutD ds lo hi) = true := okL_iff.mpr fun d hd => okL_iff.mp h d (cut_mem hd)
theorem dpA_cut (ds : List PyData) (lo hi : Option Int) : PyData.depthAll (cutD ds lo hi) ≤ PyData.depthAll ds := dpA_le fun d hd => dpA_mem (cut_mem hd)
@[simp] theorem okL_ints {ns : List Int} : okL (ns.map .int) = ns.all (fun i => decide (Bd IB i)) := by
  induction ns with
  | nil => simp
  | cons n ns ih => simp [ih]
@[simp] theorem cnL_ints {ns : List Int} : cnL (ns.map .int) = ns.length := by
  induction ns with
  | nil => simp
  | cons n ns ih => simp [ih]; omega
@[simp] theorem dpA_ints {ns : List Int} : PyData.depthAll (ns.map .int) = 0 := dep_ints ns
/-! what is shown -/
mutual
theorem show_ok : ∀ d : PyData, okB d = true → d.showable = true ∧ d.canLay0 = true ∧ d.shown.length + 4 ≤ 1930 * cn d
  | .none, _ => by
    refine ⟨by simp [PyData.showable], by simp [PyData.canLay0], ?_⟩
    simp only [PyData.shown, cn_n]
    decide
  | .bool b, _ => by
    refine ⟨by simp [PyData.showable], by simp [PyData.canLay0], ?_⟩
    simp only [PyData.shown, cn_b]
    cases b <;> decide
  | .int i, h => by
    have hb : Bd IB i := of_decide_eq_true (by rwa [okB_i] at h)
    have hl : i.natAbs.log2 ≤ 1700 := hb.log'
    have hl2 : i.natAbs.log2 < 1920 := by omega
    have := PyProof.Rows.int_text_len_1921 hl2
    refine ⟨by simp [PyData.showable]; exact hl2, by simp [PyData.canLay0], ?_⟩
    simp only [PyData.shown, cn_i]
    omega
  | .str x, h => by
    rw [okB_s, Bool.and_eq_true] at h
    have h1 : x.length ≤ 600 := of_decide_eq_true h.1
    refine ⟨by simp [PyData.showable], by simp only [PyData.canLay0]; exact h.2, ?_⟩
    have h2 := StrLaws.reprText_len x fun c hc => by
      have := h.2
      unfold PyData.strOk at this
      have h3 := Array.all_eq_true'.mp this c (by simpa using hc)
      have h4 : c < 1114112 := by simpa using h3
      omega
    simp only [PyData.shown, cn_s]
    omega
  | .list ds, h => by
    obtain ⟨h1, h2, h3⟩ := show_okL ds (by rwa [okB_l] at h)
    refine ⟨by simpa [PyData.showable] using h1, by simpa [PyData.canLay0] using h2, ?_⟩
    simp only [PyData.shown, cn_l]
    have : (listText (PyData.shownAll ds)).length ≤ piled (PyData.shownAll ds) + 3 := by
      cases PyData.shownAll ds with
      | nil => decide
      | cons t r =>
        have h := textFrom_length_pos r 1 (("[" : Str) ++ (if (0 : Nat) > 0 then ", " else "" : String) ++ t) (Nat.succ_pos 0)
        have e : ((("[" : Str) ++ (if (0 : Nat) > 0 then ", " else "" : String) ++ t)).length = 1 + t.length := by
          rw [strLen_append, strLen_append]; rfl
        have hX : (listText (t :: r)).length = (textFrom 1 (("[" : Str) ++ (if (0 : Nat) > 0 then ", " else "" : String) ++ t) r).length + 1 := by
          show (textFrom 0 "[" (t :: r) ++ "]").length = _
          rw [strLen_append]; rfl
        rw [hX, h, e, piled_cons]
        omega
    omega
  | .tuple ds, h => by
    obtain ⟨h1, h2, h3⟩ := show_okL ds (by rwa [okB_t] at h)
    refine ⟨by simpa [PyData.showable] using h1, by simpa [PyData.canLay0] using h2, ?_⟩
    simp only [PyData.shown, cn_t]
    have : (tupleText (PyData.shownAll ds)).length ≤ piled (PyData.shownAll ds) + 3 := by
      unfold tupleText
      rw [strLen_append, strLen_append]
      have e1 : ((("(" : String) : Str)).length = 1 := rfl
      have e3 : (((if (PyData.shownAll ds).length == 1 then ",)" else ")" : String) : Str)).length ≤ 2 := by split <;> decide
      rw [e1]
      by_cases h : PyData.shownAll ds = []
      · rw [h] at e3 ⊢
        have e4 : (Str.join ", " ([] : List Str)).length = 0 := rfl
        rw [e4]
        simp only [piled_nil]
        omega
      · have := join_length_add _ h
        omega
    omega
  | .dict _, h => by simp [okB] at h
theorem show_okL : ∀ ds : List PyData, okL ds = true → PyData.showableAll ds = true ∧ PyData.canLayAll0 ds = true ∧ piled (PyData.shownAll ds) ≤ 1930 * cnL ds
  | [], _ => ⟨by simp [PyData.showableAll], by simp [PyData.canLayAll0], by simp [PyData.shownAll, piled]⟩
  | d :: ds, h => by
    rw [okL_c, Bool.and_eq_true] at h
    obtain ⟨h1, h2, h3⟩ := show_ok d h.1
    obtain ⟨g1, g2, g3⟩ := show_okL ds h.2
    refine ⟨by simp [PyData.showableAll, h1, g1], by simp [PyData.canLayAll0, h2, g2], ?_⟩
    simp only [PyData.shownAll, piled_cons, cnL_c]
    omega
end
/-- data as the laws' papers are -/
structure Gd (d : PyData) : Prop where
  ok : okB d = true
  few : cn d ≤ 500
  deep : d.depth ≤ 20
theorem Gd.shaped {d : PyData} (h : Gd d) : SeqAt.shaped d = true := by
  unfold SeqAt.shaped
  rw [Bool.and_eq_true]
  exact ⟨(show_ok d h.ok).2.1, decide_eq_true (Nat.le_trans h.deep (by decide))⟩
theorem Gd.repr {d : PyData} (h : Gd d) : reprR (.sh d) = some (.sh (.str d.shown)) := by
  have h1 := (show_ok d h.ok).2.2
  have h2 := h.few
  unfold reprR
  exact if_pos ⟨(show_ok d h.ok).1, h.shaped, by simp only [Res.dat, LIM]; omega⟩
theorem Gd.item {d : PyData} {ds : List PyData} (h : Gd (.list ds)) (hd : d ∈ ds) : Gd d := by
  obtain ⟨h1, h2, h3⟩ := h
  rw [okB_l] at h1
  rw [cn_l] at h2
  rw [dp_l] at h3
  have := cnL_mem hd
  have := dpA_mem hd
  exact ⟨okL_iff.mp h1 d hd, by omega, by omega⟩
theorem Gd.itemT {d : PyData} {ds : List PyData} (h : Gd (.tuple ds)) (hd : d ∈ ds) : Gd d := by
  obtain ⟨h1, h2, h3⟩ := h
  rw [okB_t] at h1
  rw [cn_t] at h2
  rw [dp_t] at h3
  have := cnL_mem hd
  have := dpA_mem hd
  exact ⟨okL_iff.mp h1 d hd, by omega, by omega⟩
theorem Gd.int {i : Int} (h : Gd (.int i)) : Bd IB i := of_decide_eq_true (by have := h.ok; rwa [okB_i] at this)
end F3
set_option maxRecDepth 100000
set_option maxHeartbeats 4000000
namespace Lk77
open PySem L2 F3
/-! the data-level reading of each def -/
def c_REST : PyData := (PyData.tuple [(PyData.int 1), (PyData.int 0), (PyData.int 0), (PyData.int 1), (PyData.int 0), (PyData.int 0)])
def c_HEXAGON : PyData := (PyData.tuple [(PyData.tuple [(PyData.int (-1)), (PyData.int (-1))]), (PyData.tuple [(PyData.int 0), (PyData.int (-1))]), (PyData.tuple [(PyData.int 1), (PyData.int 0)]), (PyData.tuple [(PyData.int 1), (PyData.int 1)]), (PyData.tuple [(PyData.int 0), (PyData.int 1)]), (PyData.tuple [(PyData.int (-1)), (PyData.int 0)])])
def c_NEAR_MOVES : PyData := (PyData.tuple [(PyData.tuple [(PyData.int 1), (PyData.int 0), (PyData.int 0), (PyData.int 1), (PyData.int 0), (PyData.int 0)]), (PyData.tuple [(PyData.int 1), (PyData.int 1), (PyData.int 0), (PyData.int 1), (PyData.int 0), (PyData.int 0)]), (PyData.tuple [(PyData.int 1), (PyData.int (-1)), (PyData.int 0), (PyData.int 1), (PyData.int 0), (PyData.int 0)]), (PyData.tuple [(PyData.int 1), (PyData.int 1), (PyData.int (-1)), (PyData.int 0), (PyData.int 0), (PyData.int 0)]), (PyData.tuple [(PyData.int 1), (PyData.int 0), (PyData.int (-1)), (PyData.int 1), (PyData.int 0), (PyData.int 0)])])
noncomputable def b_from_to : Rh → Option Out := (sRet (eTup (aCons (eBin subR (eBin ixR (eVar 1) (eC (.int 0))) (eBin ixR (eVar 0) (eC (.int 0)))) (aCons (eBin subR (eBin ixR (eVar 1) (eC (.int 1))) (eBin ixR (eVar 0) (eC (.int 1)))) aNil))))
noncomputable def f_from_to : List PyData → Option Res := fnD 2 2 b_from_to
noncomputable def b_taken : Rh → Option Out := (sRet (eTup (aCons (eBin mulI (eBin ixR (eVar 0) (eC (.int 0))) (eVar 1)) (aCons (eBin mulI (eBin ixR (eVar 0) (eC (.int 1))) (eVar 1)) aNil))))
noncomputable def f_taken : List PyData → Option Res := fnD 2 2 b_taken
noncomputable def b_is_number : Rh → Option Out := (sRet (eAndD (eIsi .int (eVar 0)) (eNotD (eIsi .bool (eVar 0)))))
noncomputable def f_is_number : List PyData → Option Res := fnD 1 1 b_is_number
noncomputable def b_is_number_tuple : Rh → Option Out := (sSeq (sIf (tOrD (tNotD (tOf (eIsi .tuple (eVar 0)))) (tOf (eBin neR (eCall (on1 lenR) (aCons (eVar 0) aNil)) (eVar 1))))
  (sRet (eC (.bool false)))
  sPass)
 (sSeq (sFo [2] (sPre [2] (sFor (itSeq (eVar 0)) (gNm 2)
  (sFo [2] (sIf (tNotD (tOf (eFn f_is_number (aCons (eVar 2) aNil))))
  (sRet (eC (.bool false)))
  sPass)))))
 (sRet (eC (.bool true)))))
noncomputable def f_is_number_tuple : List PyData → Option Res := fnD 2 3 b_is_number_tuple
noncomputable def b_strength : Rh → Option Out := (sRet (eBin subR (eBin mulI (eBin ixR (eVar 0) (eC (.int 0))) (eBin ixR (eVar 0) (eC (.int 3)))) (eBin mulI (eBin ixR (eVar 0) (eC (.int 1))) (eBin ixR (eVar 0) (eC (.int 2))))))
noncomputable def f_strength : List PyData → Option Res := fnD 1 1 b_strength
noncomputable def b_is_move : Rh → Option Out := (sRet (eAndD (eFn f_is_number_tuple (aCons (eVar 0) (aCons (eC (.int 6)) aNil))) (eBin (inR false) (eFn f_strength (aCons (eVar 0) aNil)) (eTup (aCons (eC (.int 1)) (aCons (eUn negR (eC (.int 1))) aNil))))))
noncomputable def f_is_move : List PyData → Option Res := fnD 1 1 b_is_move
noncomputable def b_is_plain : Rh → Option Out := (sRet (eAndD (eBin eqR (eBin ixR (eVar 0) (eC (.int 4))) (eC (.int 0))) (eBin eqR (eBin ixR (eVar 0) (eC (.int 5))) (eC (.int 0)))))
noncomputable def f_is_plain : List PyData → Option Res := fnD 1 1 b_is_plain
noncomputable def b_sent : Rh → Option Out := (sSeq (sUnp (gTp (gsC (gNm 2) (gsC (gNm 3) (gsC (gNm 4) (gsC (gNm 5) (gsC (gNm 6) (gsC (gNm 7) gsN))))))) (eVar 0))
 (sSeq (sUnp (gTp (gsC (gNm 8) (gsC (gNm 9) gsN))) (eVar 1))
 (sRet (eTup (aCons (eBin addR (eBin addR (eBin mulI (eVar 2) (eVar 8)) (eBin mulI (eVar 3) (eVar 9))) (eVar 6)) (aCons (eBin addR (eBin addR (eBin mulI (eVar 4) (eVar 8)) (eBin mulI (eVar 5) (eVar 9))) (eVar 7)) aNil))))))
noncomputable def f_sent : List PyData → Option Res := fnD 2 10 b_sent
noncomputable def b_sent_vector : Rh → Option Out := (sSeq (sUnp (gTp (gsC (gNm 2) (gsC (gNm 3) (gsC (gNm 4) (gsC (gNm 5) (gsC (gNm 6) (gsC (gNm 7) gsN))))))) (eVar 0))
 (sSeq (sUnp (gTp (gsC (gNm 8) (gsC (gNm 9) gsN))) (eVar 1))
 (sRet (eTup (aCons (eBin addR (eBin mulI (eVar 2) (eVar 8)) (eBin mulI (eVar 3) (eVar 9))) (aCons (eBin addR (eBin mulI (eVar 4) (eVar 8)) (eBin mulI (eVar 5) (eVar 9))) aNil))))))
noncomputable def f_sent_vector : List PyData → Option Res := fnD 2 10 b_sent_vector
noncomputable def b_after : Rh → Option Out := (sSeq (sUnp (gTp (gsC (gNm 2) (gsC (gNm 3) (gsC (gNm 4) (gsC (gNm 5) (gsC (gNm 6) (gsC (gNm 7) gsN))))))) (eVar 0))
 (sSeq (sSet 8 (eFn f_sent_vector (aCons (eVar 1) (aCons (eTup (aCons (eVar 2) (aCons (eVar 4) aNil))) aNil))))
 (sSeq (sSet 9 (eFn f_sent_vector (aCons (eVar 1) (aCons (eTup (aCons (eVar 3) (aCons (eVar 5) aNil))) aNil))))
 (sSeq (sSet 10 (eFn f_sent (aCons (eVar 1) (aCons (eTup (aCons (eVar 6) (aCons (eVar 7) aNil))) aNil))))
 (sRet (eTup (aCons (eBin ixR (eVar 8) (eC (.int 0))) (aCons (eBin ixR (eVar 9) (eC (.int 0))) (aCons (eBin ixR (eVar 8) (eC (.int 1))) (aCons (eBin ixR (eVar 9) (eC (.int 1))) (aCons (eBin ixR (eVar 10) (eC (.int 0))) (aCons (eBin ixR (eVar 10) (eC (.int 1))) aNil))))))))))))
noncomputable def f_after : List PyData → Option Res := fnD 2 11 b_after
noncomputable def b_undoing : Rh → Option Out := (sSeq (sUnp (gTp (gsC (gNm 1) (gsC (gNm 2) (gsC (gNm 3) (gsC (gNm 4) (gsC (gNm 5) (gsC (gNm 6) gsN))))))) (eVar 0))
 (sSeq (sSet 7 (eFn f_strength (aCons (eVar 0) aNil)))
 (sSeq (sSet 8 (eTup (aCons (eBin mulI (eVar 7) (eVar 4)) (aCons (eBin mulI (eUn negR (eVar 7)) (eVar 2)) (aCons (eBin mulI (eUn negR (eVar 7)) (eVar 3)) (aCons (eBin mulI (eVar 7) (eVar 1)) (aCons (eC (.int 0)) (aCons (eC (.int 0)) aNil))))))))
 (sSeq (sSet 9 (eFn f_sent_vector (aCons (eVar 8) (aCons (eTup (aCons (eVar 5) (aCons (eVar 6) aNil))) aNil))))
 (sRet (eTup (aCons (eBin ixR (eVar 8) (eC (.int 0))) (aCons (eBin ixR (eVar 8) (eC (.int 1))) (aCons (eBin ixR (eVar 8) (eC (.int 2))) (aCons (eBin ixR (eVar 8) (eC (.int 3))) (aCons (eUn negR (eBin ixR (eVar 9) (eC (.int 0)))) (aCons (eUn negR (eBin ixR (eVar 9) (eC (.int 1)))) aNil))))))))))))
noncomputable def f_undoing : List PyData → Option Res := fnD 1 10 b_undoing
noncomputable def b_nearest : Rh → Option Out := (sSeq (sIf (tOf (eBin ltR (eVar 1) (eC (.int 0))))
  (sSeq (sSet 0 (eUn negR (eVar 0)))
 (sSet 1 (eUn negR (eVar 1))))
  sPass)
 (sRet (eBin fdivR (eBin addR (eBin mulI (eC (.int 2)) (eVar 0)) (eVar 1)) (eBin mulI (eC (.int 2)) (eVar 1)))))
noncomputable def f_nearest : List PyData → Option Res := fnD 2 2 b_nearest
noncomputable def b_form_of : Rh → Option Out := (sSeq (sSet 1 (eCall (on1 sumR) (aCons (eLc (itSeq (eVar 0)) (gNm 4) tYesD (eBin addR (eBin mulI (eBin ixR (eVar 4) (eC (.int 0))) (eBin ixR (eVar 4) (eC (.int 0)))) (eBin mulI (eBin ixR (eVar 4) (eC (.int 2))) (eBin ixR (eVar 4) (eC (.int 2))))) [4]) aNil)))
 (sSeq (sSet 2 (eCall (on1 sumR) (aCons (eLc (itSeq (eVar 0)) (gNm 4) tYesD (eBin addR (eBin mulI (eBin ixR (eVar 4) (eC (.int 0))) (eBin ixR (eVar 4) (eC (.int 1)))) (eBin mulI (eBin ixR (eVar 4) (eC (.int 2))) (eBin ixR (eVar 4) (eC (.int 3))))) [4]) aNil)))
 (sSeq (sSet 3 (eCall (on1 sumR) (aCons (eLc (itSeq (eVar 0)) (gNm 4) tYesD (eBin addR (eBin mulI (eBin ixR (eVar 4) (eC (.int 1))) (eBin ixR (eVar 4) (eC (.int 1)))) (eBin mulI (eBin ixR (eVar 4) (eC (.int 3))) (eBin ixR (eVar 4) (eC (.int 3))))) [4]) aNil)))
 (sRet (eTup (aCons (eVar 1) (aCons (eVar 2) (aCons (eVar 3) aNil))))))))
noncomputable def f_form_of : List PyData → Option Res := fnD 1 5 b_form_of
noncomputable def b_mixed_value : Rh → Option Out := (sSeq (sSet 3 (eBin addR (eBin mulI (eBin ixR (eVar 1) (eC (.int 0))) (eBin ixR (eVar 2) (eC (.int 1)))) (eBin mulI (eBin ixR (eVar 1) (eC (.int 1))) (eBin ixR (eVar 2) (eC (.int 0))))))
 (sRet (eBin addR (eBin addR (eBin mulI (eBin mulI (eBin ixR (eVar 0) (eC (.int 0))) (eBin ixR (eVar 1) (eC (.int 0)))) (eBin ixR (eVar 2) (eC (.int 0)))) (eBin mulI (eBin ixR (eVar 0) (eC (.int 1))) (eVar 3))) (eBin mulI (eBin mulI (eBin ixR (eVar 0) (eC (.int 2))) (eBin ixR (eVar 1) (eC (.int 1)))) (eBin ixR (eVar 2) (eC (.int 1)))))))
noncomputable def f_mixed_value : List PyData → Option Res := fnD 3 4 b_mixed_value
noncomputable def b_straightened : Rh → Option Out := (sSeq (sSet 3 (eFn f_nearest (aCons (eFn f_mixed_value (aCons (eVar 0) (aCons (eVar 1) (aCons (eVar 2) aNil)))) (aCons (eFn f_mixed_value (aCons (eVar 0) (aCons (eVar 2) (aCons (eVar 2) aNil)))) aNil))))
 (sRet (eFn f_from_to (aCons (eFn f_taken (aCons (eVar 2) (aCons (eVar 3) aNil))) (aCons (eVar 1) aNil)))))
noncomputable def f_straightened : List PyData → Option Res := fnD 3 4 b_straightened
noncomputable def l_least_basis_1 : Rh → Option Out := (sPar 1 2 (aCons (eVar 2) (aCons (eFn f_straightened (aCons (eVar 0) (aCons (eFn f_taken (aCons (eVar 1) (aCons (eUn negR (eC (.int 1))) aNil))) (aCons (eVar 2) aNil)))) aNil)))
noncomputable def w_least_basis_2 : Rh → Option Bool := (tOf (eBin ltR (eFn f_mixed_value (aCons (eVar 0) (aCons (eVar 2) (aCons (eVar 2) aNil)))) (eFn f_mixed_value (aCons (eVar 0) (aCons (eVar 1) (aCons (eVar 1) aNil))))))
noncomputable def b_least_basis : Rh → Option Out := (sSeq (sSet 1 (eTup (aCons (eC (.int 1)) (aCons (eC (.int 0)) aNil))))
 (sSeq (sSet 2 (eFn f_straightened (aCons (eVar 0) (aCons (eTup (aCons (eC (.int 0)) (aCons (eC (.int 1)) aNil))) (aCons (eVar 1) aNil)))))
 (sSeq (sWhile w_least_basis_2
  l_least_basis_1)
 (sRet (eTup (aCons (eVar 1) (aCons (eVar 2) aNil)))))))
noncomputable def f_least_basis : List PyData → Option Res := fnD 1 3 b_least_basis
noncomputable def b_settling : Rh → Option Out := (sSeq (sUnp (gTp (gsC (gNm 1) (gsC (gNm 2) gsN))) (eFn f_least_basis (aCons (eVar 0) aNil)))
 (sRet (eFn f_undoing (aCons (eTup (aCons (eBin ixR (eVar 1) (eC (.int 0))) (aCons (eBin ixR (eVar 2) (eC (.int 0))) (aCons (eBin ixR (eVar 1) (eC (.int 1))) (aCons (eBin ixR (eVar 2) (eC (.int 1))) (aCons (eC (.int 0)) (aCons (eC (.int 0)) aNil))))))) aNil))))
noncomputable def f_settling : List PyData → Option Res := fnD 1 3 b_settling
noncomputable def l_group_of_1 : Rh → Option Out := (sFo [3, 4] (sSeq (sSet 4 (eFn f_after (aCons (eBin ixR (eVar 1) (eVar 2)) (aCons (eVar 3) aNil))))
 (sIf (tOf (eBin (inR true) (eVar 4) (eVar 1)))
  (sApp 1 (eVar 4))
  sPass)))
noncomputable def l_group_of_2 : Rh → Option Out := (sFo [3, 4] (sSeq (sFo [3, 4] (sPre [3, 4] (sFor (itSeq (eVar 0)) (gNm 3)
  l_group_of_1)))
 (sSet 2 (eBin addR (eVar 2) (eC (.int 1))))))
noncomputable def w_group_of_3 : Rh → Option Bool := (tAndD (tOf (eBin ltR (eVar 2) (eCall (on1 lenR) (aCons (eVar 1) aNil)))) (tOf (eBin leR (eCall (on1 lenR) (aCons (eVar 1) aNil)) (eC (.int 12)))))
noncomputable def b_group_of : Rh → Option Out := (sSeq (sSet 1 (eLst (aCons (eC c_REST) aNil)))
 (sSeq (sSet 2 (eC (.int 0)))
 (sSeq (sFo [2, 3, 4] (sPre [3, 4] (sWhile w_group_of_3
  l_group_of_2)))
 (sSeq (sIf (tOf (eBin gtR (eCall (on1 lenR) (aCons (eVar 1) aNil)) (eC (.int 12))))
  (sRaise "EndlessGroup")
  sPass)
 (sRet (eCall (on1 sortR) (aCons (eVar 1) aNil)))))))
noncomputable def f_group_of : List PyData → Option RX := fnDX 1 5 b_group_of
noncomputable def b_keeps_square : Rh → Option Out := (sRet (eAndD (eBin eqR (eBin addR (eCall (on1 absR) (aCons (eBin ixR (eVar 0) (eC (.int 0))) aNil)) (eCall (on1 absR) (aCons (eBin ixR (eVar 0) (eC (.int 1))) aNil))) (eC (.int 1))) (eBin eqR (eBin addR (eCall (on1 absR) (aCons (eBin ixR (eVar 0) (eC (.int 2))) aNil)) (eCall (on1 absR) (aCons (eBin ixR (eVar 0) (eC (.int 3))) aNil))) (eC (.int 1)))))
noncomputable def f_keeps_square : List PyData → Option Res := fnD 1 1 b_keeps_square
noncomputable def b_keeps_hexagon : Rh → Option Out := (sSeq (sUnp (gTp (gsC (gNm 1) (gsC (gNm 2) (gsC (gNm 3) (gsC (gNm 4) gsN))))) (eSl (eVar 0) oNo (oIs (eC (.int 4)))))
 (sRet (eAndD (eBin (inR false) (eTup (aCons (eVar 1) (aCons (eVar 3) aNil))) (eC c_HEXAGON)) (eAndD (eBin (inR false) (eTup (aCons (eVar 2) (aCons (eVar 4) aNil))) (eC c_HEXAGON)) (eBin (inR false) (eTup (aCons (eBin addR (eVar 1) (eVar 2)) (aCons (eBin addR (eVar 3) (eVar 4)) aNil))) (eC c_HEXAGON))))))
noncomputable def f_keeps_hexagon : List PyData → Option Res := fnD 1 5 b_keeps_hexagon
noncomputable def b_made_by : Rh → Option Out := (sRet (eLc (itSeq (eVar 0)) (gNm 2) tYesD (eFn f_after (aCons (eFn f_after (aCons (eFn f_undoing (aCons (eVar 1) aNil)) (aCons (eVar 2) aNil))) (aCons (eVar 1) aNil))) [2]))
noncomputable def f_made_by : List PyData → Option Res := fnD 2 3 b_made_by
noncomputable def l_shows_standard_1 : Rh → Option Out := (sFo [3] (sSeq (sIf (tAndD (tOf (eBin eqR (eVar 1) (eC (.str "square")))) (tNotD (tOf (eFn f_keeps_square (aCons (eVar 3) aNil)))))
  (sRet (eC (.bool false)))
  sPass)
 (sIf (tAndD (tOf (eBin eqR (eVar 1) (eC (.str "hexagon")))) (tNotD (tOf (eFn f_keeps_hexagon (aCons (eVar 3) aNil)))))
  (sRet (eC (.bool false)))
  sPass)))
noncomputable def b_shows_standard : Rh → Option Out := (sSeq (sIf (tOrD (tNotD (tOf (eIsi .str (eVar 1)))) (tOf (eBin (inR true) (eVar 1) (eTup (aCons (eC (.str "square")) (aCons (eC (.str "hexagon")) aNil))))))
  (sRet (eC (.bool false)))
  sPass)
 (sSeq (sIf (tOrD (tNotD (tOf (eFn f_is_move (aCons (eVar 2) aNil)))) (tOrD (tNotD (tOf (eFn f_is_plain (aCons (eVar 2) aNil)))) (tOf (eBin neR (eFn f_strength (aCons (eVar 2) aNil)) (eC (.int 1))))))
  (sRet (eC (.bool false)))
  sPass)
 (sSeq (sFo [3] (sPre [3] (sFor (itSeq (eFn f_made_by (aCons (eVar 0) (aCons (eVar 2) aNil)))) (gNm 3)
  l_shows_standard_1)))
 (sRet (eC (.bool true))))))
noncomputable def f_shows_standard : List PyData → Option Res := fnD 3 4 b_shows_standard
noncomputable def b_standard_group : Rh → Option Out := (sSeq (sSet 1 (eC (.str "square")))
 (sSeq (sIf (tOf (eBin eqR (eBin modR (eCall (on1 lenR) (aCons (eVar 0) aNil)) (eC (.int 3))) (eC (.int 0))))
  (sSet 1 (eC (.str "hexagon")))
  sPass)
 (sSeq (sSet 2 (eFn f_settling (aCons (eFn f_form_of (aCons (eVar 0) aNil)) aNil)))
 (sSeq (sSet 3 (eLc (itSeq (eC c_NEAR_MOVES)) (gNm 4) (tOf (eFn f_shows_standard (aCons (eVar 0) (aCons (eVar 1) (aCons (eFn f_after (aCons (eVar 2) (aCons (eVar 4) aNil))) aNil))))) (eFn f_after (aCons (eVar 2) (aCons (eVar 4) aNil))) [4]))
 (sRet (eTup (aCons (eVar 1) (aCons (eBin ixR (eVar 3) (eC (.int 0))) aNil))))))))
noncomputable def f_standard_group : List PyData → Option Res := fnD 1 5 b_standard_group
noncomputable def b__law_draws : Rh → Option Out := (sSeq (sSet 2 (eLst aNil))
 (sSeq (sFo [3, 4, 5, 6] (sPre [3, 4, 5, 6] (sFor (itSeq (eSl (eVar 0) oNo (oIs (eC (.int 63))))) (gNm 3)
  (sFo [3, 4, 5, 6] (sSeq (sSet 4 (eCall (on1 absR) (aCons (eCall (on1 intR) (aCons (eVar 3) aNil)) aNil)))
 (sFo [4, 5, 6] (sIf (tOf (eBin geR (eVar 4) (eBin powR (eC (.int 10)) (eC (.int 18)))))
  (sFo [4, 5] (sPre [5] (sFor (itRng (aCons (eC (.int 60)) aNil)) (gNm 5)
  (sFo [5] (sIf (tOf (eBin gtR (eVar 4) (eC (.int 0))))
  (sSeq (sApp 2 (eBin modR (eVar 4) (eC (.int 1000003))))
 (sSet 4 (eBin fdivR (eVar 4) (eC (.int 1000003)))))
  sPass)))))
  (sSeq (sSet 6 (eBin modR (eBin addR (eBin addR (eBin mulI (eVar 4) (eC (.int 48271))) (eBin mulI (eC (.int 7)) (eCall (on1 lenR) (aCons (eVar 2) aNil)))) (eC (.int 11))) (eC (.int 2147483647))))
 (sFo [5, 6] (sPre [5] (sFor (itRng (aCons (eC (.int 4)) aNil)) (gNm 5)
  (sFo [5] (sSeq (sSet 6 (eBin modR (eBin addR (eBin addR (eBin addR (eBin mulI (eVar 6) (eC (.int 69621))) (eBin fdivR (eVar 6) (eC (.int 65536)))) (eBin mulI (eC (.int 13)) (eVar 5))) (eC (.int 5))) (eC (.int 2147483629))))
 (sApp 2 (eBin modR (eBin fdivR (eVar 6) (eC (.int 8))) (eC (.int 1000003)))))))))))))))))
 (sSeq (sFo [5, 7] (sPre [5, 7] (sFor (itRng (aCons (eVar 1) aNil)) (gNm 5)
  (sFo [5, 7] (sFo [7] (sIf (tOf (eBin ltR (eCall (on1 lenR) (aCons (eVar 2) aNil)) (eVar 1)))
  (sSeq (sSet 7 (eC (.int 0)))
 (sSeq (sIf (tOf (eBin gtR (eCall (on1 lenR) (aCons (eVar 2) aNil)) (eC (.int 0))))
  (sSet 7 (eBin ixR (eVar 2) (eBin modR (eVar 5) (eCall (on1 lenR) (aCons (eVar 2) aNil)))))
  sPass)
 (sApp 2 (eBin modR (eBin addR (eBin addR (eBin mulI (eVar 7) (eC (.int 16807))) (eBin mulI (eC (.int 31)) (eCall (on1 lenR) (aCons (eVar 2) aNil)))) (eC (.int 17))) (eC (.int 1000003))))))
  sPass))))))
 (sRet (eSl (eVar 2) oNo (oIs (eVar 1)))))))
noncomputable def f__law_draws : List PyData → Option Res := fnD 2 8 b__law_draws
noncomputable def b__law_is_number : Rh → Option Out := (sRet (eAndD (eIsi .int (eVar 0)) (eNotD (eIsi .bool (eVar 0)))))
noncomputable def f__law_is_number : List PyData → Option Res := fnD 1 1 b__law_is_number
noncomputable def f__law_same : Nat → List PyData → Option Res
  | 0 => fun _ => none
  | n + 1 => fnD 2 3 (sSeq (sIf (tOf (eIsi .bool (eVar 1)))
  (sRet (eAndD (eIsi .bool (eVar 0)) (eBin eqR (eVar 0) (eVar 1))))
  sPass)
 (sSeq (sIf (tOf (eIsi .int (eVar 1)))
  (sRet (eAndD (eFn f__law_is_number (aCons (eVar 0) aNil)) (eBin eqR (eVar 0) (eVar 1))))
  sPass)
 (sSeq (sIf (tOf (eIsi .str (eVar 1)))
  (sRet (eAndD (eIsi .str (eVar 0)) (eBin eqR (eVar 0) (eVar 1))))
  sPass)
 (sSeq (sIf (tOf (eBin (isR false) (eVar 1) (eC .none)))
  (sRet (eBin (isR false) (eVar 0) (eC .none)))
  sPass)
 (sSeq (sIf (tAndD (tOf (eIsi .tuple (eVar 1))) (tNotD (tOf (eIsi .tuple (eVar 0)))))
  (sRet (eC (.bool false)))
  sPass)
 (sSeq (sIf (tAndD (tOf (eIsi .list (eVar 1))) (tNotD (tOf (eIsi .list (eVar 0)))))
  (sRet (eC (.bool false)))
  sPass)
 (sSeq (sIf (tOf (eBin neR (eCall (on1 lenR) (aCons (eVar 0) aNil)) (eCall (on1 lenR) (aCons (eVar 1) aNil))))
  (sRet (eC (.bool false)))
  sPass)
 (sSeq (sFo [2] (sPre [2] (sFor (itRng (aCons (eCall (on1 lenR) (aCons (eVar 1) aNil)) aNil)) (gNm 2)
  (sFo [2] (sIf (tNotD (tOf (eFn (f__law_same n) (aCons (eBin ixR (eVar 0) (eVar 2)) (aCons (eBin ixR (eVar 1) (eVar 2)) aNil)))))
  (sRet (eC (.bool false)))
  sPass)))))
 (sRet (eC (.bool true)))))))))))
noncomputable def l__law_even_1 : Rh → Option Out := (sFo [8, 9] (sSeq (sSet 9 (eBin subR (eBin modR (eBin ixR (eVar 0) (eBin addR (eVar 1) (eVar 8))) (eBin addR (eBin mulI (eC (.int 2)) (eVar 3)) (eC (.int 1)))) (eVar 3)))
 (sIf (tOf (eBin eqR (eBin modR (eVar 8) (eC (.int 2))) (eC (.int 0))))
  (sSeq (sSet 4 (eBin addR (eVar 4) (eBin mulI (eVar 9) (eVar 6))))
 (sSet 5 (eBin addR (eVar 5) (eBin mulI (eVar 9) (eVar 7)))))
  (sSeq (sSet 6 (eBin addR (eVar 6) (eBin mulI (eVar 9) (eVar 4))))
 (sSet 7 (eBin addR (eVar 7) (eBin mulI (eVar 9) (eVar 5))))))))
noncomputable def b__law_even : Rh → Option Out := (sSeq (sUnp (gTp (gsC (gNm 4) (gsC (gNm 5) (gsC (gNm 6) (gsC (gNm 7) gsN))))) (eTup (aCons (eC (.int 1)) (aCons (eC (.int 0)) (aCons (eC (.int 0)) (aCons (eC (.int 1)) aNil))))))
 (sSeq (sFo [8, 9] (sPre [8, 9] (sFor (itRng (aCons (eVar 2) aNil)) (gNm 8)
  l__law_even_1)))
 (sRet (eTup (aCons (eVar 4) (aCons (eVar 5) (aCons (eVar 6) (aCons (eVar 7) aNil))))))))
noncomputable def f__law_even : List PyData → Option Res := fnD 4 10 b__law_even
noncomputable def b__law_times : Rh → Option Out := (sSeq (sUnp (gTp (gsC (gNm 2) (gsC (gNm 3) (gsC (gNm 4) (gsC (gNm 5) gsN))))) (eVar 0))
 (sSeq (sUnp (gTp (gsC (gNm 6) (gsC (gNm 7) (gsC (gNm 8) (gsC (gNm 9) gsN))))) (eVar 1))
 (sRet (eTup (aCons (eBin addR (eBin mulI (eVar 2) (eVar 6)) (eBin mulI (eVar 3) (eVar 8))) (aCons (eBin addR (eBin mulI (eVar 2) (eVar 7)) (eBin mulI (eVar 3) (eVar 9))) (aCons (eBin addR (eBin mulI (eVar 4) (eVar 6)) (eBin mulI (eVar 5) (eVar 8))) (aCons (eBin addR (eBin mulI (eVar 4) (eVar 7)) (eBin mulI (eVar 5) (eVar 9))) aNil))))))))
noncomputable def f__law_times : List PyData → Option Res := fnD 2 10 b__law_times
noncomputable def b__law_by : Rh → Option Out := (sRet (eFn f__law_times (aCons (eFn f__law_times (aCons (eVar 0) (aCons (eVar 1) aNil))) (aCons (eTup (aCons (eBin ixR (eVar 0) (eC (.int 3))) (aCons (eUn negR (eBin ixR (eVar 0) (eC (.int 1)))) (aCons (eUn negR (eBin ixR (eVar 0) (eC (.int 2)))) (aCons (eBin ixR (eVar 0) (eC (.int 0))) aNil))))) aNil))))
noncomputable def f__law_by : List PyData → Option Res := fnD 2 2 b__law_by
noncomputable def b__law_keeps : Rh → Option Out := (sSeq (sUnp (gTp (gsC (gNm 2) (gsC (gNm 3) (gsC (gNm 4) (gsC (gNm 5) gsN))))) (eVar 1))
 (sSeq (sSet 6 (eLst (aCons (eTup (aCons (eUn negR (eC (.int 1))) (aCons (eUn negR (eC (.int 1))) aNil))) (aCons (eTup (aCons (eUn negR (eC (.int 1))) (aCons (eC (.int 1)) aNil))) (aCons (eTup (aCons (eC (.int 1)) (aCons (eUn negR (eC (.int 1))) aNil))) (aCons (eTup (aCons (eC (.int 1)) (aCons (eC (.int 1)) aNil))) aNil))))))
 (sSeq (sIf (tOf (eBin eqR (eVar 0) (eC (.str "hexagon"))))
  (sSet 6 (eLst (aCons (eTup (aCons (eUn negR (eC (.int 1))) (aCons (eUn negR (eC (.int 1))) aNil))) (aCons (eTup (aCons (eUn negR (eC (.int 1))) (aCons (eC (.int 0)) aNil))) (aCons (eTup (aCons (eC (.int 0)) (aCons (eUn negR (eC (.int 1))) aNil))) (aCons (eTup (aCons (eC (.int 0)) (aCons (eC (.int 1)) aNil))) (aCons (eTup (aCons (eC (.int 1)) (aCons (eC (.int 0)) aNil))) (aCons (eTup (aCons (eC (.int 1)) (aCons (eC (.int 1)) aNil))) aNil))))))))
  sPass)
 (sFrz [6] (sRet (eBin eqR (eCall (on1 sortR) (aCons (eLc (itSeq (eVar 6)) (gTp (gsC (gNm 7) (gsC (gNm 8) gsN))) tYesD (eTup (aCons (eBin addR (eBin mulI (eVar 2) (eVar 7)) (eBin mulI (eVar 3) (eVar 8))) (aCons (eBin addR (eBin mulI (eVar 4) (eVar 7)) (eBin mulI (eVar 5) (eVar 8))) aNil))) [7, 8]) aNil)) (eVar 6)))))))
noncomputable def f__law_keeps : List PyData → Option Res := fnD 2 9 b__law_keeps
noncomputable def l__law_keeping_1 : Rh → Option Out := (sFo [5] (sIf (tAndD (tOf (eBin eqR (eCall (on1 absR) (aCons (eBin subR (eBin mulI (eVar 2) (eVar 5)) (eBin mulI (eVar 3) (eVar 4))) aNil)) (eC (.int 1)))) (tOf (eFn f__law_keeps (aCons (eVar 0) (aCons (eTup (aCons (eVar 2) (aCons (eVar 3) (aCons (eVar 4) (aCons (eVar 5) aNil))))) aNil)))))
  (sApp 1 (eTup (aCons (eVar 2) (aCons (eVar 3) (aCons (eVar 4) (aCons (eVar 5) aNil))))))
  sPass))
noncomputable def l__law_keeping_2 : Rh → Option Out := (sFo [4, 5] (sFo [5] (sPre [5] (sFor (itRng (aCons (eUn negR (eC (.int 1))) (aCons (eC (.int 2)) aNil))) (gNm 5)
  l__law_keeping_1))))
noncomputable def l__law_keeping_3 : Rh → Option Out := (sFo [3, 4, 5] (sFo [4, 5] (sPre [4, 5] (sFor (itRng (aCons (eUn negR (eC (.int 1))) (aCons (eC (.int 2)) aNil))) (gNm 4)
  l__law_keeping_2))))
noncomputable def l__law_keeping_4 : Rh → Option Out := (sFo [2, 3, 4, 5] (sFo [3, 4, 5] (sPre [3, 4, 5] (sFor (itRng (aCons (eUn negR (eC (.int 1))) (aCons (eC (.int 2)) aNil))) (gNm 3)
  l__law_keeping_3))))
noncomputable def b__law_keeping : Rh → Option Out := (sSeq (sSet 1 (eLst aNil))
 (sSeq (sFo [2, 3, 4, 5] (sPre [2, 3, 4, 5] (sFor (itRng (aCons (eUn negR (eC (.int 1))) (aCons (eC (.int 2)) aNil))) (gNm 2)
  l__law_keeping_4)))
 (sRet (eVar 1))))
noncomputable def f__law_keeping : List PyData → Option Res := fnD 1 6 b__law_keeping
noncomputable def b__law_plain : Rh → Option Out := (sRet (eTup (aCons (eBin ixR (eVar 0) (eC (.int 0))) (aCons (eBin ixR (eVar 0) (eC (.int 1))) (aCons (eBin ixR (eVar 0) (eC (.int 2))) (aCons (eBin ixR (eVar 0) (eC (.int 3))) (aCons (eC (.int 0)) (aCons (eC (.int 0)) aNil))))))))
noncomputable def f__law_plain : List PyData → Option Res := fnD 1 1 b__law_plain
noncomputable def l__law_closed_1 : Rh → Option Out := (sFo [3, 4] (sSeq (sSet 4 (eFn f__law_times (aCons (eVar 3) (aCons (eBin ixR (eVar 1) (eVar 2)) aNil))))
 (sIf (tOf (eBin (inR true) (eVar 4) (eVar 1)))
  (sApp 1 (eVar 4))
  sPass)))
noncomputable def l__law_closed_2 : Rh → Option Out := (sFo [2, 3, 4] (sFo [3, 4] (sIf (tAndD (tOf (eBin ltR (eVar 2) (eCall (on1 lenR) (aCons (eVar 1) aNil)))) (tOf (eBin ltR (eCall (on1 lenR) (aCons (eVar 1) aNil)) (eC (.int 14)))))
  (sFo [3, 4] (sPre [3, 4] (sFor (itSeq (eVar 0)) (gNm 3)
  l__law_closed_1)))
  sPass)))
noncomputable def b__law_closed : Rh → Option Out := (sSeq (sSet 1 (eLst (aCons (eTup (aCons (eC (.int 1)) (aCons (eC (.int 0)) (aCons (eC (.int 0)) (aCons (eC (.int 1)) aNil))))) aNil)))
 (sSeq (sFo [2, 3, 4] (sPre [2, 3, 4] (sFor (itRng (aCons (eC (.int 13)) aNil)) (gNm 2)
  l__law_closed_2)))
 (sRet (eVar 1))))
noncomputable def f__law_closed : List PyData → Option Res := fnD 1 5 b__law_closed
noncomputable def l__law_placed_moves_1 : Rh → Option Out := (sFo [6] (sApp 5 (eFn f__law_by (aCons (eVar 4) (aCons (eBin ixR (eVar 3) (eBin modR (eBin ixR (eVar 0) (eBin addR (eBin addR (eVar 1) (eC (.int 5))) (eVar 6))) (eCall (on1 lenR) (aCons (eVar 3) aNil)))) aNil)))))
noncomputable def b__law_placed_moves : Rh → Option Out := (sSeq (sSet 2 (eBin ixR (eLst (aCons (eC (.str "square")) (aCons (eC (.str "hexagon")) aNil))) (eBin modR (eBin ixR (eVar 0) (eVar 1)) (eC (.int 2)))))
 (sSeq (sSet 3 (eFn f__law_keeping (aCons (eVar 2) aNil)))
 (sSeq (sSet 4 (eFn f__law_even (aCons (eVar 0) (aCons (eBin addR (eVar 1) (eC (.int 1))) (aCons (eBin modR (eBin fdivR (eBin ixR (eVar 0) (eVar 1)) (eC (.int 2))) (eC (.int 4))) (aCons (eC (.int 2)) aNil))))))
 (sSeq (sIf (tOf (eBin eqR (eBin modR (eBin fdivR (eBin ixR (eVar 0) (eVar 1)) (eC (.int 50))) (eC (.int 8))) (eC (.int 3))))
  (sSet 4 (eTup (aCons (eC (.int 1)) (aCons (eBin subR (eBin modR (eBin ixR (eVar 0) (eBin addR (eVar 1) (eC (.int 1)))) (eC (.int 61))) (eC (.int 30))) (aCons (eC (.int 0)) (aCons (eC (.int 1)) aNil))))))
  sPass)
 (sSeq (sSet 5 (eLst aNil))
 (sSeq (sFo [6] (sPre [6] (sFor (itRng (aCons (eBin modR (eBin fdivR (eBin ixR (eVar 0) (eVar 1)) (eC (.int 10))) (eC (.int 5))) aNil)) (gNm 6)
  l__law_placed_moves_1)))
 (sFrz [5] (sRet (eTup (aCons (eVar 2) (aCons (eVar 4) (aCons (eVar 5) aNil))))))))))))
noncomputable def f__law_placed_moves : List PyData → Option Res := fnD 2 7 b__law_placed_moves
noncomputable def l__law_world_1 : Rh → Option Out := (sFo [7, 8] (sSeq (sSet 8 (eFn f__law_even (aCons (eVar 0) (aCons (eBin addR (eC (.int 12)) (eBin mulI (eC (.int 3)) (eVar 7))) (aCons (eBin addR (eC (.int 1)) (eBin modR (eBin fdivR (eBin ixR (eVar 0) (eC (.int 11))) (eC (.int 32))) (eC (.int 3)))) (aCons (eVar 5) aNil))))))
 (sSeq (sIf (tOf (eBin eqR (eBin modR (eBin ixR (eVar 0) (eBin addR (eC (.int 24)) (eVar 7))) (eC (.int 2))) (eC (.int 0))))
  (sSet 8 (eTup (aCons (eBin ixR (eVar 8) (eC (.int 0))) (aCons (eBin ixR (eVar 8) (eC (.int 1))) (aCons (eUn negR (eBin ixR (eVar 8) (eC (.int 2)))) (aCons (eUn negR (eBin ixR (eVar 8) (eC (.int 3)))) aNil))))))
  sPass)
 (sSeq (sIf (tOf (eBin eqR (eBin modR (eBin fdivR (eBin ixR (eVar 0) (eBin addR (eC (.int 24)) (eVar 7))) (eC (.int 2))) (eC (.int 3))) (eC (.int 0))))
  (sSet 8 (eTup (aCons (eBin ixR (eVar 8) (eC (.int 2))) (aCons (eBin ixR (eVar 8) (eC (.int 3))) (aCons (eUn negR (eBin ixR (eVar 8) (eC (.int 0)))) (aCons (eUn negR (eBin ixR (eVar 8) (eC (.int 1)))) aNil))))))
  sPass)
 (sApp 6 (eVar 8))))))
noncomputable def b__law_world : Rh → Option Out := (sSeq (sUnp (gTp (gsC (gNm 1) (gsC (gNm 2) (gsC (gNm 3) gsN)))) (eFn f__law_placed_moves (aCons (eVar 0) (aCons (eC (.int 0)) aNil))))
 (sSeq (sIf (tOf (eBin neR (eBin modR (eBin ixR (eVar 0) (eC (.int 10))) (eC (.int 4))) (eC (.int 3))))
  (sRet (eVar 3))
  sPass)
 (sSeq (sSet 4 (eBin addR (eC (.int 1)) (eBin modR (eBin ixR (eVar 0) (eC (.int 11))) (eC (.int 4)))))
 (sSeq (sSet 5 (eC (.int 3)))
 (sSeq (sIf (tOf (eBin eqR (eBin modR (eBin fdivR (eBin ixR (eVar 0) (eC (.int 11))) (eC (.int 4))) (eC (.int 8))) (eC (.int 5))))
  (sSet 5 (eC (.int 9)))
  sPass)
 (sSeq (sSet 6 (eLst aNil))
 (sSeq (sFo [7, 8] (sPre [7, 8] (sFor (itRng (aCons (eVar 4) aNil)) (gNm 7)
  l__law_world_1)))
 (sSeq (sIf (tOf (eBin eqR (eBin modR (eBin ixR (eVar 0) (eC (.int 28))) (eC (.int 3))) (eC (.int 0))))
  (sRet (eSl (eBin addR (eVar 3) (eVar 6)) oNo (oIs (eC (.int 4)))))
  sPass)
 (sRet (eVar 6))))))))))
noncomputable def f__law_world : List PyData → Option Res := fnD 1 9 b__law_world
noncomputable def l__law_told_1 : Rh → Option Out := (sFo [7, 8, 9] (sSeq (sSet 8 (eBin subR (eBin mulI (eBin ixR (eVar 7) (eC (.int 0))) (eBin ixR (eVar 7) (eC (.int 3)))) (eBin mulI (eBin ixR (eVar 7) (eC (.int 1))) (eBin ixR (eVar 7) (eC (.int 2))))))
 (sSeq (sSet 9 (eTup (aCons (eBin mulI (eVar 8) (eBin ixR (eVar 7) (eC (.int 3)))) (aCons (eBin mulI (eUn negR (eVar 8)) (eBin ixR (eVar 7) (eC (.int 1)))) (aCons (eBin mulI (eUn negR (eVar 8)) (eBin ixR (eVar 7) (eC (.int 2)))) (aCons (eBin mulI (eVar 8) (eBin ixR (eVar 7) (eC (.int 0)))) aNil))))))
 (sIf (tLnd [2] (tOrD (tOf (eBin (inR true) (eVar 9) (eVar 2))) (tOf (eBin gtR (eCall (on1 lenR) (aCons (eLc (itSeq (eVar 2)) (gNm 6) (tOf (eBin (inR true) (eFn f__law_times (aCons (eVar 7) (aCons (eVar 6) aNil))) (eVar 2))) (eVar 6) [6]) aNil)) (eC (.int 0))))))
  (sRet (eC (.bool false)))
  sPass))))
noncomputable def b__law_told : Rh → Option Out := (sSeq (sSet 1 (eLc (itSeq (eVar 0)) (gNm 10) tYesD (eFn f__law_plain (aCons (eVar 10) aNil)) [10]))
 (sSeq (sSet 2 (eFn f__law_closed (aCons (eVar 0) aNil)))
 (sSeq (sSet 3 (eC .none))
 (sSeq (sSet 4 (eC (.bool false)))
 (sSeq (sFrz [1] (sTry "EndlessGroup" 3 5 f_group_of (aCons (eVar 1) aNil)
  (sSeq (sSet 6 (eOrD (eC (.bool false)) (eC (.bool false))))
 (sSet 4 (eAndD (eC (.bool true)) (eAndD (eC (.bool true)) (eNotD (eVar 6))))))))
 (sSeq (sIf (tOf (eBin neR (eVar 1) (eLc (itSeq (eVar 0)) (gNm 10) tYesD (eFn f__law_plain (aCons (eVar 10) aNil)) [10])))
  (sRet (eC (.bool false)))
  sPass)
 (sSeq (sIf (tOf (eBin gtR (eCall (on1 lenR) (aCons (eVar 2) aNil)) (eC (.int 12))))
  (sRet (eAndD (eVar 4) (eBin (isR false) (eVar 3) (eC .none))))
  sPass)
 (sSeq (sIf (tLnd [2, 3] (tOrD (tOf (eVar 4)) (tNotD (tOf (eFn (f__law_same 24) (aCons (eVar 3) (aCons (eCall (on1 sortR) (aCons (eLc (itSeq (eVar 2)) (gNm 10) tYesD (eFn f__law_plain (aCons (eVar 10) aNil)) [10]) aNil)) aNil)))))))
  (sRet (eC (.bool false)))
  sPass)
 (sSeq (sFrz [2] (sFo [7, 8, 9] (sPre [7, 8, 9] (sFor (itSeq (eVar 2)) (gNm 7)
  l__law_told_1))))
 (sSeq (sApp 3 (eTup (aCons (eC (.int 1)) (aCons (eC (.int 2)) (aCons (eC (.int 3)) (aCons (eC (.int 4)) (aCons (eC (.int 5)) (aCons (eC (.int 6)) aNil))))))))
 (sSeq (sPut 3 (eC (.int 0)) (eTup (aCons (eC (.int 0)) (aCons (eC (.int 0)) (aCons (eC (.int 0)) (aCons (eC (.int 0)) (aCons (eC (.int 0)) (aCons (eC (.int 0)) aNil))))))))
 (sFrz [1, 2] (sRet (eFn (f__law_same 24) (aCons (eFn (okD f_group_of) (aCons (eVar 1) aNil)) (aCons (eCall (on1 sortR) (aCons (eLc (itSeq (eVar 2)) (gNm 10) tYesD (eFn f__law_plain (aCons (eVar 10) aNil)) [10]) aNil)) aNil))))))))))))))))
noncomputable def f__law_told : List PyData → Option Res := fnD 1 11 b__law_told
noncomputable def l__law_part_one_1 : Rh → Option Out := (sFo [3] (sIf (tOrD (tNotD (tOf (eFn f__law_told (aCons (eLst (aCons (eVar 3) aNil)) aNil)))) (tNotD (tOf (eFn f__law_told (aCons (eLst (aCons (eVar 3) (aCons (eTup (aCons (eUn negR (eC (.int 1))) (aCons (eC (.int 0)) (aCons (eC (.int 0)) (aCons (eUn negR (eC (.int 1))) aNil))))) aNil))) aNil)))))
  (sRet (eC (.bool false)))
  sPass))
noncomputable def l__law_part_one_2 : Rh → Option Out := (sFo [4] (sIf (tNotD (tOf (eFn f__law_told (aCons (eVar 4) aNil))))
  (sRet (eC (.bool false)))
  sPass))
noncomputable def l__law_part_one_3 : Rh → Option Out := (sFo [4] (sIf (tNotD (tOf (eFn f__law_told (aCons (eVar 4) aNil))))
  (sRet (eC (.bool false)))
  sPass))
noncomputable def b__law_part_one : Rh → Option Out := (sSeq (sSet 1 (eFn f__law_draws (aCons (eVar 0) (aCons (eC (.int 30)) aNil))))
 (sSeq (sFrz [1] (sSet 2 (eFn f__law_world (aCons (eVar 1) aNil))))
 (sSeq (sFrz [2] (sIf (tOf (eBin neR (eLc (itSeq (eVar 2)) (gNm 3) (tOf (eBin gtR (eCall (mmR maxL) (aCons (eLc (itSeq (eVar 3)) (gNm 5) tYesD (eCall (on1 absR) (aCons (eVar 5) aNil)) [5]) aNil)) (eC (.int 1000)))) (eVar 3) [3]) (eLst aNil)))
  (sRet (eC (.bool false)))
  sPass))
 (sSeq (sFrz [2] (sIf (tOrD (tNotD (tOf (eFn f__law_told (aCons (eVar 2) aNil)))) (tOrD (tNotD (tOf (eFn f__law_told (aCons (eSl3 (eVar 2) oNo oNo (oIs (eUn negR (eC (.int 1))))) aNil)))) (tNotD (tOf (eFn f__law_told (aCons (eSl (eBin addR (eVar 2) (eVar 2)) oNo (oIs (eC (.int 4)))) aNil))))))
  (sRet (eC (.bool false)))
  sPass))
 (sSeq (sFrz [2] (sFo [3] (sPre [3] (sFor (itSeq (eVar 2)) (gNm 3)
  l__law_part_one_1))))
 (sSeq (sFo [4] (sPre [4] (sFor (itSeq (eLst (aCons (eLst aNil) (aCons (eLst (aCons (eTup (aCons (eC (.int 1)) (aCons (eC (.int 0)) (aCons (eC (.int 0)) (aCons (eC (.int 1)) aNil))))) aNil)) (aCons (eLst (aCons (eTup (aCons (eC (.int 1)) (aCons (eC (.int 1)) (aCons (eC (.int 0)) (aCons (eC (.int 1)) aNil))))) aNil)) (aCons (eLst (aCons (eTup (aCons (eC (.int 0)) (aCons (eUn negR (eC (.int 1))) (aCons (eC (.int 1)) (aCons (eC (.int 1)) aNil))))) (aCons (eTup (aCons (eC (.int 0)) (aCons (eC (.int 1)) (aCons (eC (.int 1)) (aCons (eC (.int 0)) aNil))))) aNil))) (aCons (eLst (aCons (eTup (aCons (eC (.int 0)) (aCons (eUn negR (eC (.int 1))) (aCons (eC (.int 1)) (aCons (eC (.int 0)) aNil))))) (aCons (eTup (aCons (eC (.int 0)) (aCons (eC (.int 1)) (aCons (eC (.int 1)) (aCons (eC (.int 0)) aNil))))) aNil))) (aCons (eLst (aCons (eTup (aCons (eC (.int 2)) (aCons (eC (.int 1)) (aCons (eC (.int 1)) (aCons (eC (.int 1)) aNil))))) aNil)) aNil)))))))) (gNm 4)
  l__law_part_one_2)))
 (sSeq (sFo [4] (sPre [4] (sFor (itSeq (eLst (aCons (eLst (aCons (eTup (aCons (eC (.int 0)) (aCons (eUn negR (eC (.int 1))) (aCons (eC (.int 1)) (aCons (eC (.int 0)) aNil))))) (aCons (eTup (aCons (eC (.int 0)) (aCons (eUn negR (eC (.int 1))) (aCons (eC (.int 1)) (aCons (eC (.int 1)) aNil))))) aNil))) (aCons (eLst (aCons (eTup (aCons (eC (.int 1)) (aCons (eC (.int 0)) (aCons (eC (.int 0)) (aCons (eUn negR (eC (.int 1))) aNil))))) (aCons (eTup (aCons (eC (.int 1)) (aCons (eC (.int 1)) (aCons (eC (.int 0)) (aCons (eUn negR (eC (.int 1))) aNil))))) aNil))) (aCons (eLst (aCons (eTup (aCons (eUn negR (eC (.int 1))) (aCons (eC (.int 0)) (aCons (eC (.int 0)) (aCons (eUn negR (eC (.int 1))) aNil))))) (aCons (eTup (aCons (eC (.int 1)) (aCons (eC (.int 999)) (aCons (eC (.int 0)) (aCons (eUn negR (eC (.int 1))) aNil))))) aNil))) (aCons (eLst (aCons (eTup (aCons (eC (.int 0)) (aCons (eUn negR (eC (.int 1))) (aCons (eC (.int 1)) (aCons (eUn negR (eC (.int 1))) aNil))))) aNil)) aNil)))))) (gNm 4)
  l__law_part_one_3)))
 (sFrz [2] (sRet (eFn f__law_told (aCons (eVar 2) aNil)))))))))))
noncomputable def f__law_part_one : List PyData → Option Res := fnD 1 6 b__law_part_one
noncomputable def b__law_is_tuple : Rh → Option Out := (sSeq (sIf (tOrD (tNotD (tOf (eIsi .tuple (eVar 0)))) (tOf (eBin neR (eCall (on1 lenR) (aCons (eVar 0) aNil)) (eVar 1))))
  (sRet (eC (.bool false)))
  sPass)
 (sSeq (sFo [2] (sPre [2] (sFor (itSeq (eVar 0)) (gNm 2)
  (sFo [2] (sIf (tNotD (tOf (eFn f__law_is_number (aCons (eVar 2) aNil))))
  (sRet (eC (.bool false)))
  sPass)))))
 (sRet (eC (.bool true)))))
noncomputable def f__law_is_tuple : List PyData → Option Res := fnD 2 3 b__law_is_tuple
noncomputable def f__law_fresh : Nat → List PyData → Option Res
  | 0 => fun _ => none
  | n + 1 => fnD 1 2 (sSeq (sIf (tOf (eIsi .list (eVar 0)))
  (sRet (eLc (itSeq (eVar 0)) (gNm 1) tYesD (eFn (f__law_fresh n) (aCons (eVar 1) aNil)) [1]))
  sPass)
 (sSeq (sIf (tOf (eIsi .tuple (eVar 0)))
  (sRet (eCall (on1 tupR) (aCons (eLc (itSeq (eVar 0)) (gNm 1) tYesD (eFn (f__law_fresh n) (aCons (eVar 1) aNil)) [1]) aNil)))
  sPass)
 (sRet (eVar 0))))
noncomputable def l__law_square_fits_1 : Rh → Option Out := (sFo [8] (sIf (tNotD (tOf (eFn f__law_keeps (aCons (eVar 0) (aCons (eFn f__law_times (aCons (eFn f__law_times (aCons (eVar 2) (aCons (eVar 8) aNil))) (aCons (eVar 7) aNil))) aNil)))))
  (sRet (eC (.bool false)))
  sPass))
noncomputable def b__law_square_fits : Rh → Option Out := (sSeq (sUnp (gTp (gsC (gNm 3) (gsC (gNm 4) (gsC (gNm 5) (gsC (gNm 6) gsN))))) (eVar 2))
 (sSeq (sSet 7 (eTup (aCons (eVar 6) (aCons (eUn negR (eVar 4)) (aCons (eUn negR (eVar 5)) (aCons (eVar 3) aNil))))))
 (sSeq (sFo [8] (sPre [8] (sFor (itSeq (eVar 1)) (gNm 8)
  l__law_square_fits_1)))
 (sRet (eC (.bool true))))))
noncomputable def f__law_square_fits : List PyData → Option Res := fnD 3 9 b__law_square_fits
noncomputable def b__law_right_standard : Rh → Option Out := (sSeq (sIf (tOrD (tNotD (tOf (eIsi .str (eVar 1)))) (tOf (eBin (inR true) (eVar 1) (eLst (aCons (eC (.str "square")) (aCons (eC (.str "hexagon")) aNil))))))
  (sRet (eC (.bool false)))
  sPass)
 (sSeq (sIf (tOrD (tNotD (tOf (eFn f__law_is_tuple (aCons (eVar 2) (aCons (eC (.int 6)) aNil))))) (tOrD (tOf (eBin neR (eBin ixR (eVar 2) (eC (.int 4))) (eC (.int 0)))) (tOrD (tOf (eBin neR (eBin ixR (eVar 2) (eC (.int 5))) (eC (.int 0)))) (tOf (eBin neR (eBin subR (eBin mulI (eBin ixR (eVar 2) (eC (.int 0))) (eBin ixR (eVar 2) (eC (.int 3)))) (eBin mulI (eBin ixR (eVar 2) (eC (.int 1))) (eBin ixR (eVar 2) (eC (.int 2))))) (eC (.int 1)))))))
  (sRet (eC (.bool false)))
  sPass)
 (sRet (eFn f__law_square_fits (aCons (eVar 1) (aCons (eVar 0) (aCons (eSl (eVar 2) oNo (oIs (eC (.int 4)))) aNil)))))))
noncomputable def f__law_right_standard : List PyData → Option Res := fnD 3 3 b__law_right_standard
noncomputable def l__law_judged_1 : Rh → Option Out := (sFo [3, 4, 5, 6] (sSeq (sSet 5 (eLst (aCons (eCall (on1 listR) (aCons (eVar 2) aNil)) (aCons (eFn (f__law_fresh 24) (aCons (eVar 3) aNil)) (aCons (eFn (f__law_fresh 24) (aCons (eVar 4) aNil)) aNil)))))
 (sSeq (sSet 6 (eFn f_shows_standard (aCons (eBin ixR (eVar 5) (eC (.int 0))) (aCons (eBin ixR (eVar 5) (eC (.int 1))) (aCons (eBin ixR (eVar 5) (eC (.int 2))) aNil)))))
 (sSeq (sFrz [2] (sIf (tOf (eBin neR (eCall (on1 reprR) (aCons (eVar 5) aNil)) (eCall (on1 reprR) (aCons (eLst (aCons (eVar 2) (aCons (eVar 3) (aCons (eVar 4) aNil)))) aNil))))
  (sRet (eC (.bool false)))
  sPass))
 (sIf (tNotD (tOf (eFn (f__law_same 24) (aCons (eVar 6) (aCons (eFn f__law_right_standard (aCons (eVar 0) (aCons (eVar 3) (aCons (eVar 4) aNil)))) aNil)))))
  (sRet (eC (.bool false)))
  sPass)))))
noncomputable def b__law_judged : Rh → Option Out := (sSeq (sSet 2 (eLc (itSeq (eVar 0)) (gNm 7) tYesD (eFn f__law_plain (aCons (eVar 7) aNil)) [7]))
 (sSeq (sFo [3, 4, 5, 6] (sPre [3, 4, 5, 6] (sFor (itSeq (eVar 1)) (gTp (gsC (gNm 3) (gsC (gNm 4) gsN)))
  l__law_judged_1)))
 (sRet (eC (.bool true)))))
noncomputable def f__law_judged : List PyData → Option Res := fnD 2 8 b__law_judged
noncomputable def b__law_told_two : Rh → Option Out := (sSeq (sSet 1 (eLc (itSeq (eVar 0)) (gNm 4) tYesD (eFn f__law_plain (aCons (eVar 4) aNil)) [4]))
 (sSeq (sFrz [1] (sSet 2 (eFn f_standard_group (aCons (eVar 1) aNil))))
 (sSeq (sIf (tOrD (tOf (eBin neR (eVar 1) (eLc (itSeq (eVar 0)) (gNm 4) tYesD (eFn f__law_plain (aCons (eVar 4) aNil)) [4]))) (tOrD (tNotD (tOf (eIsi .tuple (eVar 2)))) (tOf (eBin neR (eCall (on1 lenR) (aCons (eVar 2) aNil)) (eC (.int 2))))))
  (sRet (eC (.bool false)))
  sPass)
 (sSeq (sSet 3 (eC (.str "square")))
 (sSeq (sIf (tOf (eBin eqR (eBin modR (eCall (on1 lenR) (aCons (eVar 0) aNil)) (eC (.int 3))) (eC (.int 0))))
  (sSet 3 (eC (.str "hexagon")))
  sPass)
 (sSeq (sIf (tOrD (tNotD (tOf (eFn (f__law_same 24) (aCons (eBin ixR (eVar 2) (eC (.int 0))) (aCons (eVar 3) aNil))))) (tNotD (tOf (eFn f__law_right_standard (aCons (eVar 0) (aCons (eBin ixR (eVar 2) (eC (.int 0))) (aCons (eBin ixR (eVar 2) (eC (.int 1))) aNil)))))))
  (sRet (eC (.bool false)))
  sPass)
 (sFrz [1] (sRet (eBin (isR false) (eFn f_shows_standard (aCons (eVar 1) (aCons (eBin ixR (eVar 2) (eC (.int 0))) (aCons (eBin ixR (eVar 2) (eC (.int 1))) aNil)))) (eC (.bool true)))))))))))
noncomputable def f__law_told_two : List PyData → Option Res := fnD 1 5 b__law_told_two
noncomputable def l__law_pairs_1 : Rh → Option Out := (sFo [5] (sApp 4 (eTup (aCons (eVar 0) (aCons (eBin addR (eBin addR (eSl (eVar 3) oNo (oIs (eVar 2))) (eTup (aCons (eVar 5) aNil))) (eSl (eVar 3) (oIs (eBin addR (eVar 2) (eC (.int 1)))) oNo)) aNil)))))
noncomputable def l__law_pairs_2 : Rh → Option Out := (sFo [5] (sApp 4 (eTup (aCons (eVar 0) (aCons (eVar 5) aNil)))))
noncomputable def l__law_pairs_3 : Rh → Option Out := (sFo [5] (sApp 4 (eTup (aCons (eVar 0) (aCons (eVar 5) aNil)))))
noncomputable def l__law_pairs_4 : Rh → Option Out := (sFo [12] (sSeq (sApp 4 (eTup (aCons (eC (.str "square")) (aCons (eFn f__law_plain (aCons (eFn f__law_times (aCons (eVar 12) (aCons (eVar 1) aNil))) aNil)) aNil))))
 (sApp 4 (eTup (aCons (eC (.str "hexagon")) (aCons (eFn f__law_plain (aCons (eFn f__law_times (aCons (eVar 12) (aCons (eVar 1) aNil))) aNil)) aNil))))))
noncomputable def b__law_pairs : Rh → Option Out := (sSeq (sSet 3 (eFn f__law_plain (aCons (eVar 1) aNil)))
 (sSeq (sSet 4 (eLst (aCons (eTup (aCons (eC (.str "square")) (aCons (eVar 3) aNil))) (aCons (eTup (aCons (eC (.str "hexagon")) (aCons (eVar 3) aNil))) (aCons (eTup (aCons (eC (.str "rest")) (aCons (eVar 3) aNil))) (aCons (eTup (aCons (eVar 0) (aCons (eCall (on1 listR) (aCons (eVar 3) aNil)) aNil))) (aCons (eTup (aCons (eVar 0) (aCons (eSl (eVar 3) oNo (oIs (eC (.int 4)))) aNil))) (aCons (eTup (aCons (eVar 0) (aCons (eBin addR (eVar 3) (eTup (aCons (eC (.int 0)) aNil))) aNil))) (aCons (eTup (aCons (eC .none) (aCons (eVar 3) aNil))) aNil)))))))))
 (sSeq (sFo [5] (sPre [5] (sFor (itSeq (eLst (aCons (eBin addR (eBin ixR (eVar 3) (eVar 2)) (eC (.int 1))) (aCons (eBin subR (eBin ixR (eVar 3) (eVar 2)) (eC (.int 1))) (aCons (eUn negR (eBin ixR (eVar 3) (eVar 2))) (aCons (eC (.bool true)) (aCons (eC (.bool false)) (aCons (eC .none) (aCons (eCall (on1 strR) (aCons (eBin ixR (eVar 3) (eVar 2)) aNil)) (aCons (eTup (aCons (eBin ixR (eVar 3) (eVar 2)) aNil)) aNil)))))))))) (gNm 5)
  l__law_pairs_1)))
 (sSeq (sUnp (gTp (gsC (gNm 6) (gsC (gNm 7) (gsC (gNm 8) (gsC (gNm 9) (gsC (gNm 10) (gsC (gNm 11) gsN))))))) (eVar 3))
 (sSeq (sFo [5] (sPre [5] (sFor (itSeq (eLst (aCons (eTup (aCons (eVar 8) (aCons (eVar 9) (aCons (eVar 6) (aCons (eVar 7) (aCons (eC (.int 0)) (aCons (eC (.int 0)) aNil))))))) (aCons (eTup (aCons (eVar 6) (aCons (eVar 7) (aCons (eVar 8) (aCons (eVar 9) (aCons (eC (.int 1)) (aCons (eC (.int 0)) aNil))))))) (aCons (eTup (aCons (eVar 6) (aCons (eVar 7) (aCons (eVar 8) (aCons (eVar 9) (aCons (eC (.int 0)) (aCons (eUn negR (eC (.int 1))) aNil))))))) (aCons (eTup (aCons (eBin mulI (eC (.int 2)) (eVar 6)) (aCons (eVar 7) (aCons (eBin mulI (eC (.int 2)) (eVar 8)) (aCons (eVar 9) (aCons (eC (.int 0)) (aCons (eC (.int 0)) aNil))))))) (aCons (eTup (aCons (eVar 9) (aCons (eUn negR (eVar 7)) (aCons (eUn negR (eVar 8)) (aCons (eVar 6) (aCons (eC (.int 0)) (aCons (eC (.int 0)) aNil))))))) aNil))))))) (gNm 5)
  l__law_pairs_2)))
 (sSeq (sFo [5] (sPre [5] (sFor (itSeq (eLst (aCons (eTup (aCons (eUn negR (eVar 6)) (aCons (eUn negR (eVar 7)) (aCons (eVar 8) (aCons (eVar 9) (aCons (eC (.int 0)) (aCons (eC (.int 0)) aNil))))))) (aCons (eTup (aCons (eVar 8) (aCons (eVar 9) (aCons (eUn negR (eVar 6)) (aCons (eUn negR (eVar 7)) (aCons (eC (.int 0)) (aCons (eC (.int 0)) aNil))))))) (aCons (eTup (aCons (eVar 6) (aCons (eVar 7) (aCons (eVar 8) (aCons (eVar 9) (aCons (eC (.bool false)) (aCons (eC (.int 0)) aNil))))))) (aCons (eTup (aCons (eBin addR (eVar 6) (eVar 8)) (aCons (eBin addR (eVar 7) (eVar 9)) (aCons (eVar 8) (aCons (eVar 9) (aCons (eC (.int 0)) (aCons (eC (.int 0)) aNil))))))) (aCons (eTup (aCons (eVar 6) (aCons (eVar 7) (aCons (eBin addR (eVar 8) (eVar 6)) (aCons (eBin addR (eVar 9) (eVar 7)) (aCons (eC (.int 0)) (aCons (eC (.int 0)) aNil))))))) aNil))))))) (gNm 5)
  l__law_pairs_3)))
 (sSeq (sFo [12] (sPre [12] (sFor (itSeq (eBin addR (eFn f__law_keeping (aCons (eC (.str "square")) aNil)) (eFn f__law_keeping (aCons (eC (.str "hexagon")) aNil)))) (gNm 12)
  l__law_pairs_4)))
 (sSeq (sSet 4 (eBin addR (eVar 4) (eLst (aCons (eTup (aCons (eLst (aCons (eVar 0) aNil)) (aCons (eVar 3) aNil))) (aCons (eTup (aCons (eVar 0) (aCons (eC .none) aNil))) (aCons (eTup (aCons (eVar 0) (aCons (eC (.int 1)) aNil))) (aCons (eTup (aCons (eC (.str "")) (aCons (eVar 3) aNil))) (aCons (eTup (aCons (eC (.bool true)) (aCons (eVar 3) aNil))) (aCons (eTup (aCons (eC (.int 1)) (aCons (eVar 3) aNil))) (aCons (eTup (aCons (eVar 0) (aCons (eVar 0) aNil))) (aCons (eTup (aCons (eC (.str "Square")) (aCons (eVar 3) aNil))) (aCons (eTup (aCons (eVar 0) (aCons (eTup aNil) aNil))) aNil))))))))))))
 (sRet (eBin addR (eVar 4) (eLst (aCons (eTup (aCons (eC (.str "square")) (aCons (eTup (aCons (eC (.int 1)) (aCons (eC (.int 0)) (aCons (eC (.int 0)) (aCons (eC (.int 1)) (aCons (eC (.int 0)) (aCons (eC (.int 0)) aNil))))))) aNil))) (aCons (eTup (aCons (eC (.str "hexagon")) (aCons (eTup (aCons (eC (.int 1)) (aCons (eC (.int 0)) (aCons (eC (.int 0)) (aCons (eC (.int 1)) (aCons (eC (.int 0)) (aCons (eC (.int 0)) aNil))))))) aNil))) (aCons (eTup (aCons (eTup (aCons (eVar 0) aNil)) (aCons (eVar 3) aNil))) (aCons (eTup (aCons (eVar 0) (aCons (eTup (aCons (eVar 3) aNil)) aNil))) (aCons (eTup (aCons (eC (.str "hexagon ")) (aCons (eVar 3) aNil))) aNil))))))))))))))))
noncomputable def f__law_pairs : List PyData → Option Res := fnD 3 13 b__law_pairs
noncomputable def l__law_part_two_1 : Rh → Option Out := (sFo [8, 9] (sSeq (sSet 9 (eCall (on1 sortR) (aCons (eLc (itSeq (eFn f__law_keeping (aCons (eVar 8) aNil))) (gNm 12) tYesD (eFn f__law_by (aCons (eVar 3) (aCons (eVar 12) aNil))) [12]) aNil)))
 (sFrz [9] (sIf (tOrD (tNotD (tOf (eFn f__law_told_two (aCons (eVar 9) aNil)))) (tNotD (tOf (eFn f__law_judged (aCons (eVar 9) (aCons (eLst (aCons (eTup (aCons (eC (.str "square")) (aCons (eFn f__law_plain (aCons (eVar 7) aNil)) aNil))) (aCons (eTup (aCons (eC (.str "hexagon")) (aCons (eFn f__law_plain (aCons (eVar 7) aNil)) aNil))) aNil))) aNil))))))
  (sRet (eC (.bool false)))
  sPass))))
noncomputable def l__law_part_two_2 : Rh → Option Out := (sFo [10] (sIf (tNotD (tOf (eFn f__law_told_two (aCons (eCall (on1 sortR) (aCons (eVar 10) aNil)) aNil))))
  (sRet (eC (.bool false)))
  sPass))
noncomputable def b__law_part_two : Rh → Option Out := (sSeq (sSet 1 (eFn f__law_draws (aCons (eVar 0) (aCons (eC (.int 12)) aNil))))
 (sSeq (sFrz [1] (sUnp (gTp (gsC (gNm 2) (gsC (gNm 3) (gsC (gNm 4) gsN)))) (eFn f__law_placed_moves (aCons (eVar 1) (aCons (eC (.int 0)) aNil)))))
 (sSeq (sSet 5 (eCall (on1 sortR) (aCons (eFn f__law_closed (aCons (eVar 4) aNil)) aNil)))
 (sSeq (sSet 6 (eFn (okD f_group_of) (aCons (eLc (itSeq (eVar 4)) (gNm 11) tYesD (eFn f__law_plain (aCons (eVar 11) aNil)) [11]) aNil)))
 (sSeq (sFrz [5, 6] (sIf (tOrD (tNotD (tOf (eFn (f__law_same 24) (aCons (eVar 6) (aCons (eLc (itSeq (eVar 5)) (gNm 12) tYesD (eFn f__law_plain (aCons (eVar 12) aNil)) [12]) aNil))))) (tNotD (tOf (eFn f__law_told_two (aCons (eVar 5) aNil)))))
  (sRet (eC (.bool false)))
  sPass))
 (sSeq (sSet 7 (eTup (aCons (eBin ixR (eVar 3) (eC (.int 3))) (aCons (eUn negR (eBin ixR (eVar 3) (eC (.int 1)))) (aCons (eUn negR (eBin ixR (eVar 3) (eC (.int 2)))) (aCons (eBin ixR (eVar 3) (eC (.int 0))) aNil))))))
 (sSeq (sFrz [5] (sIf (tOrD (tNotD (tOf (eFn f__law_right_standard (aCons (eVar 5) (aCons (eVar 2) (aCons (eFn f__law_plain (aCons (eVar 7) aNil)) aNil)))))) (tNotD (tOf (eFn f__law_judged (aCons (eVar 5) (aCons (eSl3 (eFn f__law_pairs (aCons (eVar 2) (aCons (eVar 7) (aCons (eBin modR (eBin ixR (eVar 1) (eC (.int 10))) (eC (.int 6))) aNil)))) (oIs (eBin modR (eBin ixR (eVar 1) (eC (.int 11))) (eC (.int 4)))) oNo (oIs (eC (.int 4)))) aNil))))))
  (sRet (eC (.bool false)))
  sPass))
 (sSeq (sFo [8, 9] (sPre [8, 9] (sFor (itSeq (eLst (aCons (eBin ixR (eLst (aCons (eC (.str "square")) (aCons (eC (.str "hexagon")) aNil))) (eBin modR (eBin fdivR (eBin ixR (eVar 1) (eC (.int 11))) (eC (.int 4))) (eC (.int 2)))) aNil))) (gNm 8)
  l__law_part_two_1)))
 (sSeq (sFo [10] (sPre [10] (sFor (itSeq (eLst (aCons (eLst (aCons (eTup (aCons (eC (.int 1)) (aCons (eC (.int 0)) (aCons (eC (.int 0)) (aCons (eC (.int 1)) aNil))))) aNil)) (aCons (eLst (aCons (eTup (aCons (eC (.int 1)) (aCons (eC (.int 0)) (aCons (eC (.int 0)) (aCons (eC (.int 1)) aNil))))) (aCons (eTup (aCons (eC (.int 1)) (aCons (eC (.int 1)) (aCons (eC (.int 0)) (aCons (eUn negR (eC (.int 1))) aNil))))) aNil))) (aCons (eLst (aCons (eTup (aCons (eC (.int 0)) (aCons (eC (.int 1)) (aCons (eC (.int 1)) (aCons (eC (.int 0)) aNil))))) (aCons (eTup (aCons (eC (.int 1)) (aCons (eC (.int 0)) (aCons (eC (.int 0)) (aCons (eC (.int 1)) aNil))))) aNil))) (aCons (eLst (aCons (eTup (aCons (eUn negR (eC (.int 1))) (aCons (eC (.int 0)) (aCons (eC (.int 0)) (aCons (eC (.int 1)) aNil))))) (aCons (eTup (aCons (eC (.int 1)) (aCons (eC (.int 0)) (aCons (eC (.int 0)) (aCons (eC (.int 1)) aNil))))) aNil))) aNil)))))) (gNm 10)
  l__law_part_two_2)))
 (sFrz [5] (sRet (eFn f__law_told_two (aCons (eVar 5) aNil)))))))))))))
noncomputable def f__law_part_two : List PyData → Option Res := fnD 1 13 b__law_part_two
noncomputable def b_law : Rh → Option Out := (sRet (eAndD (eFn f__law_part_one (aCons (eVar 0) aNil)) (eFn f__law_part_two (aCons (eVar 0) aNil))))
noncomputable def f_law : List PyData → Option Res := fnD 1 1 b_law
end Lk77
set_option maxRecDepth 100000
set_option maxHeartbeats 1000000
/-! Ga: what a few whole matrices make, breadth first; plain Lean -/
namespace Gr
open PySem L2 F3
def addNew (f : List M) (p : M) : List M := if p ∈ f then f else f ++ [p]
def bst (ms f : List M) (x : M) : List M := ms.foldl (fun f m => addNew f (m * x)) f
def stp (ms f : List M) (k : Nat) : List M := match f[k]? with
  | some x => bst ms f x
  | none => f
def bfs (ms : List M) : Nat → List M
  | 0 => [M.one]
  | n + 1 => stp ms (bfs ms n) n
theorem addNew_pre (f : List M) (p : M) : f <+: addNew f p := by
  unfold addNew
  split
  · exact List.prefix_rfl
  · exact List.prefix_append _ _
theorem addNew_mem (f : List M) (p : M) : p ∈ addNew f p := by
  unfold addNew
  split
  · assumption
  · simp
theorem addNew_nd {f : List M} {p : M} (h : f.Nodup) : (addNew f p).Nodup := by
  unfold addNew
  split
  · exact h
  · rename_i hp
    rw [List.nodup_append]
    exact ⟨h, by simp, fun a ha b hb => by rw [List.mem_singleton] at hb; intro e; exact hp (hb ▸ e ▸ ha)⟩
theorem bst_pre (x : M) : ∀ (ms f : List M), f <+: bst ms f x
  | [], f => List.prefix_rfl
  | m :: ms, f => (addNew_pre f (m * x)).trans (bst_pre x ms (addNew f (m * x)))
theorem bst_mem (x : M) : ∀ (ms f : List M) (m : M), m ∈ ms → m * x ∈ bst ms f x
  | m :: ms, f, k, h => by
    rcases List.mem_cons.mp h with rfl | h
    · exact (bst_pre x ms (addNew f (k * x))).subset (addNew_mem f _)
    · exact bst_mem x ms (addNew f (m * x)) k h
theorem bst_nd (x : M) : ∀ (ms f : List M), f.Nodup → (bst ms f x).Nodup
  | [], f, h => h
  | m :: ms, f, h => bst_nd x ms (addNew f (m * x)) (addNew_nd h)
theorem bst_all {x : M} {p : M → Prop} : ∀ (ms f : List M), (∀ y ∈ f, p y) → (∀ m ∈ ms, p (m * x)) → ∀ y ∈ bst ms f x, p y
  | [], f, h, _ => h
  | m :: ms, f, h, g => by
    refine bst_all (x := x) ms (addNew f (m * x)) (fun y hy => ?_) fun k hk => g k (List.mem_cons_of_mem _ hk)
    unfold addNew at hy
    split at hy
    · exact h y hy
    · rcases List.mem_append.mp hy with hy | hy
      · exact h y hy
      · rw [List.mem_singleton] at hy
        rw [hy]
        exact g m List.mem_cons_self
theorem bst_len (x : M) : ∀ (ms f : List M), (bst ms f x).length ≤ f.length + ms.length
  | [], f => Nat.le_refl _
  | m :: ms, f => by
    have h := bst_len x ms (addNew f (m * x))
    have : (addNew f (m * x)).length ≤ f.length + 1 := by
      unfold addNew
      split
      · omega
      · simp
    rw [List.length_cons]
    exact Nat.le_trans h (by omega)
theorem stp_pre (ms f : List M) (k : Nat) : f <+: stp ms f k := by
  unfold stp
  split
  · exact bst_pre _ _ _
  · exact List.prefix_rfl
theorem bfs_pre (ms : List M) {n : Nat} : ∀ m, n ≤ m → bfs ms n <+: bfs ms m
  | 0, h => by
    have : n = 0 := by omega
    subst this
    exact List.prefix_rfl
  | m + 1, h => by
    by_cases e : n = m + 1
    · subst e
      exact List.prefix_rfl
    · exact (bfs_pre ms m (by omega)).trans (stp_pre ms _ _)
theorem one_bfs (ms : List M) (n : Nat) : M.one ∈ bfs ms n := (bfs_pre ms n (Nat.zero_le n)).subset List.mem_cons_self
theorem bfs_nd (ms : List M) : ∀ n, (bfs ms n).Nodup
  | 0 => by simp [bfs]
  | n + 1 => by
    show (stp ms (bfs ms n) n).Nodup
    unfold stp
    split
    · exact bst_nd _ _ _ (bfs_nd ms n)
    · exact bfs_nd ms n
/-- what the matrices make -/
inductive Gen (ms : List M) : M → Prop
  | one : Gen ms M.one
  | mul {m x : M} : m ∈ ms → Gen ms x → Gen ms (m * x)
theorem bfs_gen (ms : List M) : ∀ n, ∀ x ∈ bfs ms n, Gen ms x
  | 0, x, h => by
    rw [List.mem_singleton.mp h]
    exact .one
  | n + 1, x, h => by
    have ih := bfs_gen ms n
    change x ∈ stp ms (bfs ms n) n at h
    unfold stp at h
    split at h
    · rename_i y hy
      exact bst_all (p := Gen ms) ms _ ih (fun m hm => .mul hm (ih y (List.mem_of_getElem? hy))) x h
    · exact ih x h
theorem Gen.det {ms : List M} (hm : ∀ m ∈ ms, m.det = 1 ∨ m.det = -1) {x : M} (h : Gen ms x) : x.det = 1 ∨ x.det = -1 := by
  induction h with
  | one => exact Or.inl (by decide)
  | mul h1 _ ih =>
    rw [M.det_mul]
    rcases hm _ h1 with h | h <;> rcases ih with g | g <;> rw [h, g] <;> decide
theorem Gen.bd {ms : List M} {b : Nat} (hm : ∀ m ∈ ms, m.bd b) : ∀ n, ∀ x ∈ bfs ms n, x.bd (1 + n * (b + 1))
  | 0, x, h => by
    rw [List.mem_singleton.mp h]
    have h1 : Bd 1 1 := show (1 : Nat) < 2 ^ 1 by decide
    have h0 : Bd 1 0 := show (0 : Nat) < 2 ^ 1 by decide
    exact M.bd.mono (n := 1) ⟨h1, h0, h0, h1⟩ (by omega)
  | n + 1, x, h => by
    have ih := Gen.bd hm n
    change x ∈ stp ms (bfs ms n) n at h
    unfold stp at h
    have e : 1 + (n + 1) * (b + 1) = b + (1 + n * (b + 1)) + 1 := by rw [Nat.succ_mul]; omega
    rw [e]
    split at h
    · rename_i y hy
      exact bst_all (p := fun x => x.bd (b + (1 + n * (b + 1)) + 1)) ms _ (fun y hy => (ih y hy).mono (by omega)) (fun m hm' => (hm m hm').mul (ih y (List.mem_of_getElem? hy))) x h
    · exact (ih x h).mono (by omega)
/-- where the program's loop stops -/
def Go (ms : List M) (n : Nat) : Prop := n < (bfs ms n).length ∧ (bfs ms n).length ≤ 12
theorem stop_at (ms : List M) : ∃ n, n ≤ 12 ∧ (∀ k, k < n → Go ms k) ∧ ¬ Go ms n := by
  have : ∀ m, (∀ k, k < m → Go ms k) ∨ ∃ n, n < m ∧ (∀ k, k < n → Go ms k) ∧ ¬ Go ms n := by
    intro m
    induction m with
    | zero => exact Or.inl fun k hk => absurd hk (Nat.not_lt_zero _)
    | succ m ih =>
      rcases ih with h | ⟨n, h1, h2⟩
      · by_cases hg : Go ms m
        · refine Or.inl fun k hk => ?_
          by_cases e : k = m
          · rw [e]; exact hg
          · exact h k (by omega)
        · exact Or.inr ⟨m, by omega, h, hg⟩
      · exact Or.inr ⟨n, by omega, h2⟩
  rcases this 13 with h | ⟨n, h1, h2⟩
  · exact absurd (h 12 (by omega)) (fun hg => by have := hg.1; have := hg.2; omega)
  · exact ⟨n, by omega, h2⟩
/-- the law's list: thirteen turns, below fourteen -/
def law (ms : List M) : Nat → List M
  | 0 => [M.one]
  | n + 1 => if n < (law ms n).length ∧ (law ms n).length < 14 then stp ms (law ms n) n else law ms n
theorem law_eq (ms : List M) {n : Nat} (h : ∀ k, k < n → Go ms k) : ∀ k, k ≤ n → law ms k = bfs ms k
  | 0, _ => rfl
  | k + 1, hk => by
    have ih := law_eq ms h k (by omega)
    obtain ⟨g1, g2⟩ := h k (by omega)
    show (if k < (law ms k).length ∧ (law ms k).length < 14 then stp ms (law ms k) k else law ms k) = stp ms (bfs ms k) k
    rw [ih, if_pos ⟨g1, by omega⟩]
theorem law_pre (ms : List M) {n : Nat} : ∀ m, n ≤ m → law ms n <+: law ms m
  | 0, h => by
    have : n = 0 := by omega
    subst this
    exact List.prefix_rfl
  | m + 1, h => by
    by_cases e : n = m + 1
    · subst e
      exact List.prefix_rfl
    · refine (law_pre ms m (by omega)).trans ?_
      show law ms m <+: (if m < (law ms m).length ∧ (law ms m).length < 14 then stp ms (law ms m) m else law ms m)
      split
      · exact stp_pre _ _ _
      · exact List.prefix_rfl
theorem law_still (ms : List M) {n : Nat} (h : (law ms n).length ≤ n) : ∀ m, n ≤ m → law ms m = law ms n
  | 0, hm => by
    have : n = 0 := by omega
    rw [this]
  | m + 1, hm => by
    by_cases e : n = m + 1
    · rw [e]
    · have ih := law_still ms h m (by omega)
      show (if m < (law ms m).length ∧ (law ms m).length < 14 then stp ms (law ms m) m else law ms m) = law ms n
      rw [ih, if_neg (by omega)]
theorem law_len (ms : List M) (h : ms.length ≤ 4) : ∀ n, (law ms n).length ≤ 17
  | 0 => by show (1 : Nat) ≤ 17; decide
  | n + 1 => by
    have ih := law_len ms h n
    show (if n < (law ms n).length ∧ (law ms n).length < 14 then stp ms (law ms n) n else law ms n).length ≤ 17
    split
    · rename_i g
      unfold stp
      split
      · exact Nat.le_trans (bst_len _ _ _) (by omega)
      · exact ih
    · exact ih
/-- one list, and closed under the matrices; or more than twelve -/
theorem two_ways (ms : List M) {n : Nat} (h : ∀ k, k < n → Go ms k) (hs : ¬ Go ms n) (hn : n ≤ 12) :
    ((bfs ms n).length ≤ 12 ∧ law ms 13 = bfs ms n ∧ ∀ m ∈ ms, ∀ x ∈ bfs ms n, m * x ∈ bfs ms n) ∨ (12 < (bfs ms n).length ∧ 12 < (law ms 13).length) := by
  have e := law_eq ms h n (Nat.le_refl _)
  by_cases hl : (bfs ms n).length ≤ 12
  · have hle : (bfs ms n).length ≤ n := by
      apply Nat.le_of_not_lt
      intro hlt
      exact hs ⟨hlt, hl⟩
    refine Or.inl ⟨hl, ?_, fun m hm x hx => ?_⟩
    · rw [law_still ms (n := n) (by rw [e]; exact hle) 13 (by omega), e]
    · obtain ⟨k, hk⟩ := List.getElem?_of_mem hx
      have hkl := (List.getElem?_eq_some_iff.mp hk).1
      have g := h k (by omega)
      have hk2 : (bfs ms k)[k]? = some x := by
        have p := bfs_pre ms n (show k ≤ n by omega)
        rw [← hk]
        obtain ⟨t, ht⟩ := p
        rw [← ht, List.getElem?_append_left g.1]
      have : m * x ∈ bfs ms (k + 1) := by
        show m * x ∈ stp ms (bfs ms k) k
        unfold stp
        rw [hk2]
        exact bst_mem x ms _ m hm
      exact (bfs_pre ms n (show k + 1 ≤ n by omega)).subset this
  · refine Or.inr ⟨by omega, ?_⟩
    have p := (law_pre ms 13 (show n ≤ 13 by omega)).length_le
    rw [e] at p
    omega
/-! ### closed lists -/
structure Grp (S : List M) : Prop where
  nd : S.Nodup
  one : M.one ∈ S
  mul : ∀ x ∈ S, ∀ y ∈ S, x * y ∈ S
  det : ∀ x ∈ S, x.det = 1 ∨ x.det = -1
theorem gen_mul {ms S : List M} (h : ∀ m ∈ ms, ∀ x ∈ S, m * x ∈ S) {x : M} (g : Gen ms x) : ∀ y ∈ S, x * y ∈ S := by
  induction g with
  | one => intro y hy; rw [M.one_mul]; exact hy
  | mul hm _ ih =>
    intro y hy
    rw [M.mul_assoc]
    exact h _ hm _ (ih y hy)
theorem grp_bfs {ms : List M} {n : Nat} (hd : ∀ m ∈ ms, m.det = 1 ∨ m.det = -1) (h : ∀ m ∈ ms, ∀ x ∈ bfs ms n, m * x ∈ bfs ms n) : Grp (bfs ms n) :=
  ⟨bfs_nd ms n, one_bfs ms n, fun x hx y hy => gen_mul h (bfs_gen ms n x hx) y hy, fun x hx => (bfs_gen ms n x hx).det hd⟩
/-- the other way round -/
def vni (x : M) : M := ⟨x.det * x.d, -x.det * x.b, -x.det * x.c, x.det * x.a⟩
theorem vni_mul {x : M} (h : x.det = 1 ∨ x.det = -1) : vni x * x = M.one := by
  have e : x.det = x.a * x.d - x.b * x.c := rfl
  unfold vni
  generalize x.det = t at *
  simp only [M.mul_def, M.one]
  rcases h with rfl | rfl <;> ext <;> simp only [] <;> grind
theorem mul_vni {x : M} (h : x.det = 1 ∨ x.det = -1) : x * vni x = M.one := by
  have e : x.det = x.a * x.d - x.b * x.c := rfl
  unfold vni
  generalize x.det = t at *
  simp only [M.mul_def, M.one]
  rcases h with rfl | rfl <;> ext <;> simp only [] <;> grind
theorem cancelL {x y z : M} (h : x.det = 1 ∨ x.det = -1) (e : x * y = x * z) : y = z := by
  have := congrArg (fun m => vni x * m) e
  simp only [← M.mul_assoc, vni_mul h, M.one_mul] at this
  exact this
theorem cancelR {x y z : M} (h : x.det = 1 ∨ x.det = -1) (e : y * x = z * x) : y = z := by
  have := congrArg (fun m => m * vni x) e
  simp only [M.mul_assoc, mul_vni h, M.mul_one] at this
  exact this
theorem perm_of_sub {α : Type} [DecidableEq α] : ∀ {l k : List α}, l.Nodup → (∀ x ∈ l, x ∈ k) → k.length ≤ l.length → l.Perm k
  | [], k, _, _, h => by
    have : k = [] := List.eq_nil_of_length_eq_zero (Nat.le_zero.mp h)
    rw [this]
  | a :: l, k, nd, hs, h => by
    have ha : a ∈ k := hs a List.mem_cons_self
    rw [List.nodup_cons] at nd
    have p := List.perm_cons_erase ha
    have pl := p.length_eq
    rw [List.length_cons] at pl h
    refine (List.Perm.cons a (perm_of_sub nd.2 (fun x hx => ?_) (by omega))).trans p.symm
    have hne : x ≠ a := fun e => nd.1 (e ▸ hx)
    exact (List.mem_erase_of_ne hne).mpr (hs x (List.mem_cons_of_mem _ hx))
theorem Grp.permL {S : List M} (g : Grp S) {x : M} (hx : x ∈ S) : (S.map (x * ·)).Perm S := by
  have nd : (S.map (x * ·)).Nodup := by
    rw [List.nodup_iff_pairwise_ne, List.pairwise_map]
    exact (List.nodup_iff_pairwise_ne.mp g.nd).imp fun h e => h (cancelL (g.det x hx) e)
  refine perm_of_sub nd (fun y hy => ?_) (by rw [List.length_map]; exact Nat.le_refl _)
  obtain ⟨z, hz, rfl⟩ := List.mem_map.mp hy
  exact g.mul x hx z hz
theorem Grp.permR {S : List M} (g : Grp S) {x : M} (hx : x ∈ S) : (S.map (· * x)).Perm S := by
  have nd : (S.map (· * x)).Nodup := by
    rw [List.nodup_iff_pairwise_ne, List.pairwise_map]
    exact (List.nodup_iff_pairwise_ne.mp g.nd).imp fun h e => h (cancelR (g.det x hx) e)
  refine perm_of_sub nd (fun y hy => ?_) (by rw [List.length_map]; exact Nat.le_refl _)
  obtain ⟨z, hz, rfl⟩ := List.mem_map.mp hy
  exact g.mul z hz x hx
theorem Grp.inv {S : List M} (g : Grp S) {x : M} (hx : x ∈ S) : vni x ∈ S := by
  have h1 : M.one ∈ S.map (x * ·) := (g.permL hx).mem_iff.mpr g.one
  obtain ⟨y, hy, e⟩ := List.mem_map.mp h1
  have : y = vni x := cancelL (g.det x hx) (by rw [mul_vni (g.det x hx)]; exact e)
  rw [← this]
  exact hy
end Gr
set_option maxRecDepth 100000
set_option maxHeartbeats 1000000
/-! Gb: the form that a group keeps; plain Lean -/
namespace Gr
open PySem L2 F3
def fA (x : M) : Int := x.a * x.a + x.c * x.c
def fB (x : M) : Int := x.a * x.b + x.c * x.d
def fC (x : M) : Int := x.b * x.b + x.d * x.d
def qa (S : List M) : Int := (S.map fA).sum
def qb (S : List M) : Int := (S.map fB).sum
def qc (S : List M) : Int := (S.map fC).sum
def bil (A B C x y x' y' : Int) : Int := A * x * x' + B * (x * y' + y * x') + C * y * y'
def Pres (A B C : Int) (N : M) : Prop := A = bil A B C N.a N.c N.a N.c ∧ B = bil A B C N.a N.c N.b N.d ∧ C = bil A B C N.b N.d N.b N.d
theorem sum_perm {l k : List Int} (h : l.Perm k) : l.sum = k.sum := by
  induction h with
  | nil => rfl
  | cons x _ ih => simp [ih]
  | swap x y l => simp; omega
  | trans _ _ h1 h2 => exact h1.trans h2
theorem sum_bil (N : M) (x y x' y' : Int) : ∀ S : List M, ((S.map fun m => (m.a * x + m.b * y) * (m.a * x' + m.b * y') + (m.c * x + m.d * y) * (m.c * x' + m.d * y')).sum : Int) = bil (qa S) (qb S) (qc S) x y x' y'
  | [] => by simp [bil, qa, qb, qc]
  | m :: S => by
    have ih := sum_bil N x y x' y' S
    simp only [List.map_cons, List.sum_cons, qa, qb, qc] at ih ⊢
    rw [ih]
    unfold bil fA fB fC
    generalize (List.map fA S).sum = A
    generalize (List.map fB S).sum = B
    generalize (List.map fC S).sum = C
    grind
theorem Grp.pres {S : List M} (g : Grp S) {N : M} (hN : N ∈ S) : Pres (qa S) (qb S) (qc S) N := by
  have p := g.permR hN
  refine ⟨?_, ?_, ?_⟩
  · rw [← sum_bil N]
    have e := sum_perm (p.map fA)
    rw [List.map_map] at e
    show (S.map fA).sum = _
    rw [← e]
    rfl
  · rw [← sum_bil N]
    have e := sum_perm (p.map fB)
    rw [List.map_map] at e
    show (S.map fB).sum = _
    rw [← e]
    rfl
  · rw [← sum_bil N]
    have e := sum_perm (p.map fC)
    rw [List.map_map] at e
    show (S.map fC).sum = _
    rw [← e]
    rfl
theorem pres_bil {A B C : Int} {N : M} (h : Pres A B C N) (x y x' y' : Int) : bil A B C (N.a * x + N.b * y) (N.c * x + N.d * y) (N.a * x' + N.b * y') (N.c * x' + N.d * y') = bil A B C x y x' y' := by
  obtain ⟨h1, h2, h3⟩ := h
  unfold bil at *
  grind
/-- the form seen from another basis -/
theorem pres_pull {A B C : Int} {N P N' : M} (h : Pres A B C N) (e : P * N' = N * P) : Pres (bil A B C P.a P.c P.a P.c) (bil A B C P.a P.c P.b P.d) (bil A B C P.b P.d P.b P.d) N' := by
  have ea := congrArg M.a e
  have eb := congrArg M.b e
  have ec := congrArg M.c e
  have ed := congrArg M.d e
  simp only [M.mul_def] at ea eb ec ed
  have k11 := pres_bil h P.a P.c P.a P.c
  have k12 := pres_bil h P.a P.c P.b P.d
  have k22 := pres_bil h P.b P.d P.b P.d
  rw [← ea, ← ec] at k11 k12
  rw [← eb, ← ed] at k12 k22
  have q : ∀ x y x' y' : Int, bil (bil A B C P.a P.c P.a P.c) (bil A B C P.a P.c P.b P.d) (bil A B C P.b P.d P.b P.d) x y x' y' = bil A B C (P.a * x + P.b * y) (P.c * x + P.d * y) (P.a * x' + P.b * y') (P.c * x' + P.d * y') := by
    intro x y x' y'
    unfold bil
    grind
  refine ⟨?_, ?_, ?_⟩
  · rw [q]; exact k11.symm
  · rw [q]; exact k12.symm
  · rw [q]; exact k22.symm
/-! ### it is positive -/
theorem sq_nn (x : Int) : 0 ≤ x * x := by
  have : x * x = ((x.natAbs * x.natAbs : Nat) : Int) := (Int.natAbs_mul_self' x ▸ by simp)
  omega
theorem bil_sum (x y : Int) : ∀ S : List M, bil (qa S) (qb S) (qc S) x y x y = (S.map fun m => (m.a * x + m.b * y) * (m.a * x + m.b * y) + (m.c * x + m.d * y) * (m.c * x + m.d * y)).sum := fun S => (sum_bil M.one x y x y S).symm
theorem bil_ge {S : List M} (h : M.one ∈ S) (x y : Int) : x * x + y * y ≤ bil (qa S) (qb S) (qc S) x y x y := by
  rw [bil_sum]
  have nn : ∀ T : List M, 0 ≤ (T.map fun m => (m.a * x + m.b * y) * (m.a * x + m.b * y) + (m.c * x + m.d * y) * (m.c * x + m.d * y)).sum := by
    intro T
    induction T with
    | nil => exact Int.le_refl _
    | cons m T ih =>
      rw [List.map_cons, List.sum_cons]
      have := sq_nn (m.a * x + m.b * y)
      have := sq_nn (m.c * x + m.d * y)
      omega
  induction S with
  | nil => cases h
  | cons m S ih =>
    rw [List.map_cons, List.sum_cons]
    rcases List.mem_cons.mp h with e | h
    · subst e
      have := nn S
      have e1 : M.one.a * x + M.one.b * y = x := by simp [M.one]
      have e2 : M.one.c * x + M.one.d * y = y := by simp [M.one]
      rw [e1, e2]
      omega
    · have := ih h
      have := sq_nn (m.a * x + m.b * y)
      have := sq_nn (m.c * x + m.d * y)
      omega
end Gr
set_option maxRecDepth 100000
set_option maxHeartbeats 1000000
/-! Gc: the groups that keep a reduced form, gone through; plain Lean -/
namespace Gr
open PySem L2 F3
def kD : List M := [⟨-1, 0, 0, -1⟩, ⟨-1, 0, 0, 1⟩, ⟨0, -1, -1, 0⟩, ⟨0, -1, 1, 0⟩, ⟨0, 1, -1, 0⟩, ⟨0, 1, 1, 0⟩, ⟨1, 0, 0, -1⟩, ⟨1, 0, 0, 1⟩]
def kP : List M := [⟨-1, -1, 0, 1⟩, ⟨-1, -1, 1, 0⟩, ⟨-1, 0, 0, -1⟩, ⟨-1, 0, 1, 1⟩, ⟨0, -1, -1, 0⟩, ⟨0, -1, 1, 1⟩, ⟨0, 1, -1, -1⟩, ⟨0, 1, 1, 0⟩, ⟨1, 0, -1, -1⟩, ⟨1, 0, 0, 1⟩, ⟨1, 1, -1, 0⟩, ⟨1, 1, 0, -1⟩]
def kN : List M := [⟨-1, 0, -1, 1⟩, ⟨-1, 0, 0, -1⟩, ⟨-1, 1, -1, 0⟩, ⟨-1, 1, 0, 1⟩, ⟨0, -1, -1, 0⟩, ⟨0, -1, 1, -1⟩, ⟨0, 1, -1, 1⟩, ⟨0, 1, 1, 0⟩, ⟨1, -1, 0, -1⟩, ⟨1, -1, 1, 0⟩, ⟨1, 0, 0, 1⟩, ⟨1, 0, 1, -1⟩]
def near : List M := [⟨1, 0, 0, 1⟩, ⟨1, 1, 0, 1⟩, ⟨1, -1, 0, 1⟩, ⟨1, 1, -1, 0⟩, ⟨1, 0, -1, 1⟩]
def hexs : List (Int × Int) := [(-1, -1), (0, -1), (1, 0), (1, 1), (0, 1), (-1, 0)]
/-- keeps the square -/
def kS (m : M) : Bool := decide (m.a.natAbs + m.b.natAbs = 1) && decide (m.c.natAbs + m.d.natAbs = 1)
/-- keeps the hexagon -/
def kH (m : M) : Bool := hexs.contains (m.a, m.c) && hexs.contains (m.b, m.d) && hexs.contains (m.a + m.b, m.c + m.d)
def third (x : M) : Bool := decide (x ≠ M.one) && decide (x * (x * x) = M.one)
def isG (L : List M) : Bool := L.contains M.one && L.all fun x => L.all fun y => L.contains (x * y)
def okL (L : List M) : Bool := if L.any third then [3, 6, 12].contains L.length && near.any (fun s => L.all fun x => kH (M.by_ s x)) else [1, 2, 4, 8].contains L.length && near.any (fun s => L.all fun x => kS (M.by_ s x))
def vecs : Nat → List (List Bool)
  | 0 => [[]]
  | n + 1 => (vecs n).map (true :: ·) ++ (vecs n).map (false :: ·)
def pick : List Bool → List M → List M
  | b :: v, x :: K => if b then x :: pick v K else pick v K
  | _, _ => []
def chk (K : List M) : Bool := (vecs K.length).all fun v => let L := pick v K; !isG L || okL L
theorem chk_D : chk kD = true := by decide +kernel
theorem chk_P : chk kP = true := by decide +kernel
theorem chk_N : chk kN = true := by decide +kernel
end Gr
set_option maxRecDepth 100000
set_option maxHeartbeats 2000000
/-! Ge: a group in a reduced basis; plain Lean -/
namespace Gr
open PySem L2 F3
/-! ### what keeps a reduced form has small entries -/
theorem le1 {x y : Nat} (h : x * x + y * y ≤ x * y + 1) : x ≤ 1 ∧ y ≤ 1 := by
  constructor
  · apply Nat.le_of_not_lt
    intro hx
    have h1 : 2 * x ≤ x * x := Nat.mul_le_mul_right _ hx
    rcases Nat.le_total y x with hy | hy
    · obtain ⟨k, rfl⟩ := Nat.le.dest hy
      rw [Nat.add_mul, Nat.mul_add, Nat.mul_add, Nat.add_mul] at *
      have : y * k = k * y := Nat.mul_comm _ _
      rcases Nat.lt_or_ge k 2 with hk | hk
      · have : k = 0 ∨ k = 1 := by omega
        rcases this with rfl | rfl <;> simp at * <;> omega
      · have : 2 * k ≤ k * k := Nat.mul_le_mul_right _ hk
        omega
    · obtain ⟨k, rfl⟩ := Nat.le.dest hy
      rw [Nat.add_mul, Nat.mul_add, Nat.mul_add] at h
      omega
  · apply Nat.le_of_not_lt
    intro hx
    have h1 : 2 * y ≤ y * y := Nat.mul_le_mul_right _ hx
    rcases Nat.le_total x y with hy | hy
    · obtain ⟨k, rfl⟩ := Nat.le.dest hy
      rw [Nat.add_mul, Nat.mul_add, Nat.mul_add] at *
      have : x * k = k * x := Nat.mul_comm _ _
      rcases Nat.lt_or_ge k 2 with hk | hk
      · have : k = 0 ∨ k = 1 := by omega
        rcases this with rfl | rfl <;> simp at * <;> omega
      · have : 2 * k ≤ k * k := Nat.mul_le_mul_right _ hk
        omega
    · obtain ⟨k, rfl⟩ := Nat.le.dest hy
      rw [Nat.add_mul, Nat.mul_add, Nat.mul_add, Nat.add_mul] at h
      have : y * k = k * y := Nat.mul_comm _ _
      omega
theorem abs_mm (x y : Int) : x * y ≤ ((x.natAbs * y.natAbs : Nat) : Int) ∧ -((x.natAbs * y.natAbs : Nat) : Int) ≤ x * y := by
  have := Int.natAbs_mul x y
  omega
theorem sq_ab (x : Int) : x * x = ((x.natAbs * x.natAbs : Nat) : Int) := (Int.natAbs_mul_self' x ▸ by simp)
structure Red (A B C : Int) : Prop where
  pos : 1 ≤ A
  mid : 2 * B.natAbs ≤ A.natAbs
  le : A ≤ C
theorem Red.col1 {A B C p r : Int} (h : Red A B C) (e : A = bil A B C p r p r) : p.natAbs ≤ 1 ∧ r.natAbs ≤ 1 := by
  obtain ⟨h1, h2, h3⟩ := h
  unfold bil at e
  have e1 : A * p * p = A * (p * p) := by rw [Int.mul_assoc]
  have e2 : C * r * r = C * (r * r) := by rw [Int.mul_assoc]
  have e3 : B * (p * r + r * p) = 2 * (B * (p * r)) := by rw [Int.mul_comm r p, Int.mul_add]; omega
  rw [e1, e2, e3] at e
  obtain ⟨_, b1⟩ := abs_mm B (p * r)
  have b2 : (B.natAbs * (p * r).natAbs * 2) ≤ A.natAbs * (p * r).natAbs := by
    rw [Nat.mul_comm _ 2, ← Nat.mul_assoc]
    exact Nat.mul_le_mul_right _ h2
  have b3 : A * (r * r) ≤ C * (r * r) := Int.mul_le_mul_of_nonneg_right h3 (sq_nn r)
  have key : A * (p * p) + A * (r * r) ≤ A + ((A.natAbs * (p * r).natAbs : Nat) : Int) := by omega
  rw [Int.natAbs_mul] at key
  clear b1 b2 b3 e e1 e2 e3 h2 h3
  obtain ⟨n, rfl⟩ := Int.eq_ofNat_of_zero_le (show 0 ≤ A by omega)
  rw [sq_ab p, sq_ab r, Int.natAbs_natCast] at key
  have key2 : n * (p.natAbs * p.natAbs) + n * (r.natAbs * r.natAbs) ≤ n + n * (p.natAbs * r.natAbs) := by exact_mod_cast key
  have key3 : n * (p.natAbs * p.natAbs + r.natAbs * r.natAbs) ≤ n * (p.natAbs * r.natAbs + 1) := by
    rw [Nat.mul_add, Nat.mul_add, Nat.mul_one]
    omega
  exact le1 (Nat.le_of_mul_le_mul_left key3 (by omega))
theorem Red.col2 {A B C q s : Int} (h : Red A B C) (e : C = bil A B C q s q s) (hqs : s = 0 → q.natAbs ≤ 1) : q.natAbs ≤ 1 ∧ s.natAbs ≤ 1 := by
  obtain ⟨h1, h2, h3⟩ := h
  unfold bil at e
  have e1 : A * q * q = A * (q * q) := by rw [Int.mul_assoc]
  have e2 : C * s * s = C * (s * s) := by rw [Int.mul_assoc]
  have e3 : B * (q * s + s * q) = 2 * (B * (q * s)) := by rw [Int.mul_comm s q, Int.mul_add]; omega
  rw [e1, e2, e3] at e
  obtain ⟨_, b1⟩ := abs_mm B (q * s)
  have b2 : (B.natAbs * (q * s).natAbs * 2) ≤ A.natAbs * (q * s).natAbs := by
    rw [Nat.mul_comm _ 2, ← Nat.mul_assoc]
    exact Nat.mul_le_mul_right _ h2
  have ha : A = (A.natAbs : Int) := by omega
  have hc : C = (C.natAbs : Int) := by omega
  have key : A * (q * q) + C * (s * s) ≤ C + ((A.natAbs * (q * s).natAbs : Nat) : Int) := by omega
  rw [Int.natAbs_mul] at key
  have hs : s.natAbs ≤ 1 := by
    apply Nat.le_of_not_lt
    intro hs
    -- four times: (2 q - s)^2 A + (4 C - A) s^2 <= 4 C
    have k1 : 0 ≤ A * ((2 * (q.natAbs : Int) - s.natAbs) * (2 * (q.natAbs : Int) - s.natAbs)) := Int.mul_nonneg (by omega) (sq_nn _)
    have k2 : A * ((2 * (q.natAbs : Int) - s.natAbs) * (2 * (q.natAbs : Int) - s.natAbs)) = 4 * (A * (q * q)) - 4 * ((A.natAbs * (q.natAbs * s.natAbs) : Nat) : Int) + A * (s * s) := by
      rw [sq_ab q, sq_ab s]
      simp only [Int.natCast_mul]
      generalize (q.natAbs : Int) = u
      generalize (s.natAbs : Int) = v
      generalize (A.natAbs : Int) = w at ha ⊢
      subst ha
      grind
    have k3 : A * (s * s) ≤ C * (s * s) := Int.mul_le_mul_of_nonneg_right h3 (sq_nn s)
    have k4 : C * 4 ≤ C * (s * s) := by
      refine Int.mul_le_mul_of_nonneg_left ?_ (by omega)
      rw [sq_ab s]
      have := Nat.mul_le_mul hs hs
      omega
    omega
  refine ⟨?_, hs⟩
  by_cases hs0 : s = 0
  · exact hqs hs0
  · have hs1 : s.natAbs = 1 := by omega
    have hss : s * s = 1 := by rw [sq_ab s, hs1]; rfl
    rw [hss, Int.mul_one, hs1, Nat.mul_one, sq_ab q] at key
    clear b1 b2 e e1 e2 e3 h2 h3
    obtain ⟨n, rfl⟩ := Int.eq_ofNat_of_zero_le (show 0 ≤ A by omega)
    rw [Int.natAbs_natCast] at key
    have key1 : (n : Int) * ((q.natAbs * q.natAbs : Nat) : Int) ≤ ((n * q.natAbs : Nat) : Int) := by omega
    have key2 : n * (q.natAbs * q.natAbs) ≤ n * q.natAbs := by exact_mod_cast key1
    have key3 := Nat.le_of_mul_le_mul_left key2 (by omega)
    apply Nat.le_of_not_lt
    intro hq
    have : 2 * q.natAbs ≤ q.natAbs * q.natAbs := Nat.mul_le_mul_right _ hq
    omega
theorem three {x : Int} (h : x.natAbs ≤ 1) : x = -1 ∨ x = 0 ∨ x = 1 := by omega
theorem iso {A B C : Int} (h : Red A B C) {N : M} (hd : N.det = 1 ∨ N.det = -1) (hp : Pres A B C N) :
    (2 * B = A ∧ N ∈ kP) ∨ (2 * B = -A ∧ N ∈ kN) ∨ (2 * B.natAbs < A.natAbs ∧ N ∈ kD) := by
  obtain ⟨p1, p2, p3⟩ := hp
  obtain ⟨a1, a2⟩ := h.col1 p1
  obtain ⟨a, b, c, d⟩ := N
  simp only at *
  unfold M.det at hd
  simp only at hd
  obtain ⟨a3, a4⟩ := h.col2 p3 (fun z => by
    subst z
    rcases three a1 with rfl | rfl | rfl <;> rcases three a2 with rfl | rfl | rfl <;> omega)
  obtain ⟨h1, h2, h3⟩ := h
  unfold bil at p1 p2 p3
  have hB : 2 * B = A ∨ 2 * B = -A ∨ 2 * B.natAbs < A.natAbs := by omega
  rcases three a1 with rfl | rfl | rfl <;> rcases three a2 with rfl | rfl | rfl <;> rcases three a3 with rfl | rfl | rfl <;> rcases three a4 with rfl | rfl | rfl <;> simp only [Int.mul_neg, Int.neg_mul, Int.mul_one, Int.mul_zero, Int.zero_mul, Int.one_mul, Int.neg_neg, Int.neg_zero, Int.add_zero, Int.zero_add, Int.sub_zero] at hd p1 p2 p3 <;>
    first
      | (exfalso; omega)
      | (rcases hB with hB | hB | hB
         · first | (exfalso; omega) | exact Or.inl ⟨hB, by decide⟩
         · first | (exfalso; omega) | exact Or.inr (Or.inl ⟨hB, by decide⟩)
         · first | (exfalso; omega) | exact Or.inr (Or.inr ⟨hB, by decide⟩))
end Gr
set_option maxRecDepth 100000
set_option maxHeartbeats 1000000
/-! Gf: any finite group of whole matrices, in a reduced basis; plain Lean -/
namespace Gr
open PySem L2 F3
theorem vecs_mem : ∀ v : List Bool, v ∈ vecs v.length
  | [] => by simp [vecs]
  | true :: v => by
    rw [List.length_cons, vecs]
    exact List.mem_append_left _ (List.mem_map.mpr ⟨v, vecs_mem v, rfl⟩)
  | false :: v => by
    rw [List.length_cons, vecs]
    exact List.mem_append_right _ (List.mem_map.mpr ⟨v, vecs_mem v, rfl⟩)
theorem pick_filter (f : M → Bool) : ∀ K : List M, pick (K.map f) K = K.filter f
  | [] => rfl
  | x :: K => by
    rw [List.map_cons, pick, List.filter_cons, pick_filter f K]
theorem sub_perm {S K : List M} (hs : S.Nodup) (hk : K.Nodup) (h : ∀ x ∈ S, x ∈ K) : (K.filter fun x => decide (x ∈ S)).Perm S := by
  refine List.Perm.symm (perm_of_sub hs (fun x hx => List.mem_filter.mpr ⟨h x hx, decide_eq_true hx⟩) ?_)
  have p : ∀ (l k : List M), l.Nodup → (∀ x ∈ l, x ∈ k) → l.length ≤ k.length := by
    intro l
    induction l with
    | nil => intro k _ _; exact Nat.zero_le _
    | cons a l ih =>
      intro k nd hs
      rw [List.nodup_cons] at nd
      have ha : a ∈ k := hs a List.mem_cons_self
      have pl := (List.perm_cons_erase ha).length_eq
      rw [List.length_cons] at pl
      have := ih (k.erase a) nd.2 fun x hx => (List.mem_erase_of_ne (fun (e : x = a) => nd.1 (e ▸ hx))).mpr (hs x (List.mem_cons_of_mem _ hx))
      rw [List.length_cons]
      omega
  exact p _ _ (hk.filter _) fun x hx => of_decide_eq_true (List.mem_filter.mp hx).2
theorem chk_ok {S K : List M} (hc : chk K = true) (hk : K.Nodup) (g : Grp S) (h : ∀ x ∈ S, x ∈ K) : ∃ L : List M, L.Perm S ∧ okL L = true := by
  refine ⟨K.filter fun x => decide (x ∈ S), sub_perm g.nd hk h, ?_⟩
  have hm : ∀ x, x ∈ (K.filter fun x => decide (x ∈ S)) ↔ x ∈ S := fun x => (sub_perm g.nd hk h).mem_iff
  have hv := List.all_eq_true.mp hc (K.map fun x => decide (x ∈ S)) (by have := vecs_mem (K.map fun x => decide (x ∈ S)); rwa [List.length_map] at this)
  simp only [pick_filter] at hv
  have hg : isG (K.filter fun x => decide (x ∈ S)) = true := by
    unfold isG
    rw [Bool.and_eq_true]
    refine ⟨List.contains_iff_mem.mpr ((hm _).mpr g.one), List.all_eq_true.mpr fun x hx => List.all_eq_true.mpr fun y hy => List.contains_iff_mem.mpr ((hm _).mpr (g.mul x ((hm x).mp hx) y ((hm y).mp hy)))⟩
  rw [hg] at hv
  simpa using hv
theorem kP_nd : kP.Nodup := by decide
theorem kN_nd : kN.Nodup := by decide
theorem kD_nd : kD.Nodup := by decide
/-- seen from the basis P -/
def seen (P x : M) : M := P.inv * x * P
theorem seen_eq {P : M} (hP : P.det = 1) (x : M) : P * seen P x = x * P := by
  unfold seen
  rw [← M.mul_assoc, ← M.mul_assoc, M.mul_inv hP, M.one_mul]
theorem seen_mul {P : M} (hP : P.det = 1) (x y : M) : seen P x * seen P y = seen P (x * y) := by
  unfold seen
  rw [M.mul_assoc (P.inv * x) P, ← M.mul_assoc P, ← M.mul_assoc P, M.mul_inv hP, M.one_mul, ← M.mul_assoc, ← M.mul_assoc]
theorem seen_one {P : M} (hP : P.det = 1) : seen P M.one = M.one := by
  unfold seen
  rw [M.mul_one, M.inv_mul hP]
theorem seen_inj {P x y : M} (hP : P.det = 1) (h : seen P x = seen P y) : x = y := by
  have e1 := seen_eq hP x
  rw [h, seen_eq hP y] at e1
  exact (cancelR (Or.inl hP) e1).symm
theorem seen_det {P : M} (hP : P.det = 1) (x : M) : (seen P x).det = x.det := by
  unfold seen
  rw [M.det_mul, M.det_mul, M.det_inv, hP, Int.one_mul, Int.mul_one]
theorem seen_third {P : M} (hP : P.det = 1) (x : M) : third (seen P x) = third x := by
  unfold third
  rw [seen_mul hP, seen_mul hP]
  have h1 : (seen P x ≠ M.one) ↔ (x ≠ M.one) := by
    constructor
    · intro h e; exact h (by rw [e]; exact seen_one hP)
    · intro h e; exact h (seen_inj hP (e.trans (seen_one hP).symm))
  have h2 : (seen P (x * (x * x)) = M.one) ↔ (x * (x * x) = M.one) := by
    constructor
    · intro h; exact seen_inj hP (h.trans (seen_one hP).symm)
    · intro h; rw [h]; exact seen_one hP
  rw [decide_eq_decide.mpr h1, decide_eq_decide.mpr h2]
theorem Grp.seen {S : List M} (g : Grp S) {P : M} (hP : P.det = 1) : Grp (S.map (seen P)) := by
  refine ⟨?_, List.mem_map.mpr ⟨M.one, g.one, seen_one hP⟩, ?_, ?_⟩
  · rw [List.nodup_iff_pairwise_ne, List.pairwise_map]
    exact (List.nodup_iff_pairwise_ne.mp g.nd).imp fun h e => h (seen_inj hP e)
  · intro x hx y hy
    obtain ⟨u, hu, rfl⟩ := List.mem_map.mp hx
    obtain ⟨v, hv, rfl⟩ := List.mem_map.mp hy
    rw [seen_mul hP]
    exact List.mem_map.mpr ⟨u * v, g.mul u hu v hv, rfl⟩
  · intro x hx
    obtain ⟨u, hu, rfl⟩ := List.mem_map.mp hx
    rw [seen_det hP]
    exact g.det u hu
theorem any_perm {L S : List M} (h : L.Perm S) (p : M → Bool) : L.any p = S.any p := by
  rw [Bool.eq_iff_iff, List.any_eq_true, List.any_eq_true]
  constructor
  · rintro ⟨x, hx, hp⟩; exact ⟨x, h.mem_iff.mp hx, hp⟩
  · rintro ⟨x, hx, hp⟩; exact ⟨x, h.mem_iff.mpr hx, hp⟩
theorem main {S : List M} (g : Grp S) {P : M} (hP : P.det = 1)
    (hr : Red (bil (qa S) (qb S) (qc S) P.a P.c P.a P.c) (bil (qa S) (qb S) (qc S) P.a P.c P.b P.d) (bil (qa S) (qb S) (qc S) P.b P.d P.b P.d)) :
    (S.any third = true ∧ (S.length = 3 ∨ S.length = 6 ∨ S.length = 12) ∧ ∃ s ∈ near, ∀ x ∈ S, kH (M.by_ s (seen P x)) = true) ∨
    (S.any third = false ∧ (S.length = 1 ∨ S.length = 2 ∨ S.length = 4 ∨ S.length = 8) ∧ ∃ s ∈ near, ∀ x ∈ S, kS (M.by_ s (seen P x)) = true) := by
  have g' := g.seen hP
  have hq : ∀ u ∈ S, Pres (bil (qa S) (qb S) (qc S) P.a P.c P.a P.c) (bil (qa S) (qb S) (qc S) P.a P.c P.b P.d) (bil (qa S) (qb S) (qc S) P.b P.d P.b P.d) (seen P u) := fun u hu => pres_pull (g.pres hu) (seen_eq hP u)
  generalize bil (qa S) (qb S) (qc S) P.a P.c P.a P.c = A at hr hq
  generalize bil (qa S) (qb S) (qc S) P.a P.c P.b P.d = B at hr hq
  generalize bil (qa S) (qb S) (qc S) P.b P.d P.b P.d = C at hr hq
  have hi : ∀ x ∈ S.map (seen P), (2 * B = A ∧ x ∈ kP) ∨ (2 * B = -A ∧ x ∈ kN) ∨ (2 * B.natAbs < A.natAbs ∧ x ∈ kD) := fun x hx => by
    obtain ⟨u, hu, rfl⟩ := List.mem_map.mp hx
    exact iso hr (g'.det _ hx) (hq u hu)
  have hL : ∃ L : List M, L.Perm (S.map (seen P)) ∧ okL L = true := by
    have h1 := g'.one
    obtain ⟨r1, r2, r3⟩ := hr
    rcases hi _ h1 with h | h | h
    · exact chk_ok chk_P kP_nd g' fun x hx => by
        rcases hi x hx with k | k | k
        · exact k.2
        · omega
        · omega
    · exact chk_ok chk_N kN_nd g' fun x hx => by
        rcases hi x hx with k | k | k
        · omega
        · exact k.2
        · omega
    · exact chk_ok chk_D kD_nd g' fun x hx => by
        rcases hi x hx with k | k | k
        · omega
        · omega
        · exact k.2
  obtain ⟨L, hp, ok⟩ := hL
  have hlen : L.length = S.length := by rw [hp.length_eq, List.length_map]
  have hany : L.any third = S.any third := by
    rw [any_perm hp, List.any_map]
    congr 1
    funext x
    exact seen_third hP x
  have hall : ∀ (q : M → Bool), L.all q = true → ∀ x ∈ S, q (seen P x) = true := fun q h x hx => List.all_eq_true.mp h _ (hp.mem_iff.mpr (List.mem_map.mpr ⟨x, hx, rfl⟩))
  unfold okL at ok
  rw [hany, hlen] at ok
  cases ht : S.any third with
  | true =>
    rw [ht, if_pos rfl, Bool.and_eq_true] at ok
    obtain ⟨o1, o2⟩ := ok
    obtain ⟨s, hs, h⟩ := List.any_eq_true.mp o2
    refine Or.inl ⟨rfl, by simpa using o1, s, hs, hall _ h⟩
  | false =>
    rw [ht, if_neg (by decide), Bool.and_eq_true] at ok
    obtain ⟨o1, o2⟩ := ok
    obtain ⟨s, hs, h⟩ := List.any_eq_true.mp o2
    refine Or.inr ⟨rfl, by simpa using o1, s, hs, hall _ h⟩
end Gr
set_option maxRecDepth 100000
set_option maxHeartbeats 1000000
namespace Lk77
open PySem L2 F3
theorem mulOks {n m : Nat} {x y : M} (hx : x.bd n) (hy : y.bd m) (h : n + m < 1000000) :
    mulOk x.a y.a ∧ mulOk x.b y.c ∧ mulOk x.a y.b ∧ mulOk x.b y.d ∧ mulOk x.c y.a ∧ mulOk x.d y.c ∧ mulOk x.c y.b ∧ mulOk x.d y.d := by
  obtain ⟨h1, h2, h3, h4⟩ := hx
  obtain ⟨g1, g2, g3, g4⟩ := hy
  exact ⟨mulOk_of h1 g1 h, mulOk_of h2 g3 h, mulOk_of h1 g2 h, mulOk_of h2 g4 h, mulOk_of h3 g1 h, mulOk_of h4 g3 h, mulOk_of h3 g2 h, mulOk_of h4 g4 h⟩
theorem e_law_times {n m : Nat} {x y : M} (hx : x.bd n) (hy : y.bd m) (h : n + m < 1000000) : f__law_times [x.D, y.D] = some (.sh (x * y).D) := by
  obtain ⟨h1, h2, h3, h4, h5, h6, h7, h8⟩ := mulOks hx hy h
  simp [f__law_times, b__law_times, M.D, M.mul_def, *]
theorem e_law_by {n m : Nat} {x h : M} (hx : x.bd n) (hh : h.bd m) (hs : n + m + m + 1 < 1000000) : f__law_by [h.D, x.D] = some (.sh (M.by_ h x).D) := by
  have e1 := e_law_times hh hx (by omega)
  have e2 := e_law_times (hh.mul hx) hh.inv (by omega)
  simp [f__law_by, b__law_by, e1]
  simp [M.D, M.inv] at e2 ⊢
  simp [e2, M.by_, M.inv]
def isNum : PyData → Bool
  | .int _ => true
  | _ => false
theorem e_is_number (d : PyData) : f_is_number [d] = some (.sh (.bool (isNum d))) := by
  cases d <;> simp [f_is_number, b_is_number, isNum]
theorem e_law_is_number (d : PyData) : f__law_is_number [d] = some (.sh (.bool (isNum d))) := by
  cases d <;> simp [f__law_is_number, b__law_is_number, isNum]
theorem nums_of : ∀ {ds : List PyData}, ds.all isNum = true → ∃ ns : List Int, ds = ns.map .int
  | [], _ => ⟨[], rfl⟩
  | d :: ds, h => by
    simp only [List.all_cons, Bool.and_eq_true] at h
    obtain ⟨ns, rfl⟩ := nums_of h.2
    cases d with
    | int i => exact ⟨i :: ns, rfl⟩
    | _ => exact absurd h.1 (by simp [isNum])
theorem all_nums (ns : List Int) : (ns.map PyData.int).all isNum = true := by
  simp [isNum]
theorem for_all {g : PyData → Rh → Option Rh} {b : Rh → Option Out} {p : PyData → Bool} {ρ : Rh} (h : ∀ d, ((g d ρ).bind b) = some (if p d = true then .nx ρ else .rt (.sh (.bool false)))) :
    ∀ ds : List PyData, forD g b ds ρ = some (if ds.all p = true then .nx ρ else .rt (.sh (.bool false)))
  | [] => by simp [forD]
  | d :: ds => by
    have hd := h d
    obtain ⟨ρ1, e1, e2⟩ := bind_some hd
    have ih := for_all h ds
    unfold forD
    rw [e1, Option.bind_some, e2, Option.bind_some]
    by_cases hp : p d = true
    · simp only [hp, if_true, List.all_cons, Bool.true_and]
      exact ih
    · simp [hp]
def isTupN (k : Nat) : PyData → Bool
  | .tuple ds => decide (ds.length = k) && ds.all isNum
  | _ => false
theorem e_is_number_tuple (d : PyData) (k : Nat) : f_is_number_tuple [d, .int k] = some (.sh (.bool (isTupN k d))) := by
  cases d with
  | tuple ds =>
    have := for_all (g := gNm 2) (b := sFo [2] (sIf (tNotD (tOf (eFn f_is_number (aCons (eVar 2) aNil)))) (sRet (eC (.bool false))) sPass)) (p := isNum) (ρ := [some (.sh (.tuple ds)), some (.sh (.int k)), none]) (fun d => by
      simp [e_is_number]
      cases isNum d <;> first | rfl | simp) ds
    by_cases hk : ds.length = k
    · cases hb : ds.all isNum <;> rw [hb] at this <;> simp [f_is_number_tuple, b_is_number_tuple, this, isTupN, hk, hb]
    · have hk' : ¬ (ds.length : Int) = (k : Int) := by omega
      simp [f_is_number_tuple, b_is_number_tuple, isTupN, hk, hk']
  | _ => simp [f_is_number_tuple, b_is_number_tuple, isTupN]
theorem e_law_is_tuple (d : PyData) (k : Nat) : f__law_is_tuple [d, .int k] = some (.sh (.bool (isTupN k d))) := by
  cases d with
  | tuple ds =>
    have := for_all (g := gNm 2) (b := sFo [2] (sIf (tNotD (tOf (eFn f__law_is_number (aCons (eVar 2) aNil)))) (sRet (eC (.bool false))) sPass)) (p := isNum) (ρ := [some (.sh (.tuple ds)), some (.sh (.int k)), none]) (fun d => by
      simp [e_law_is_number]
      cases isNum d <;> first | rfl | simp) ds
    by_cases hk : ds.length = k
    · cases hb : ds.all isNum <;> rw [hb] at this <;> simp [f__law_is_tuple, b__law_is_tuple, this, isTupN, hk, hb]
    · have hk' : ¬ (ds.length : Int) = (k : Int) := by omega
      simp [f__law_is_tuple, b__law_is_tuple, isTupN, hk, hk']
  | _ => simp [f__law_is_tuple, b__law_is_tuple, isTupN]
def isTurn : PyData → Bool
  | .tuple [.int a, .int b, .int c, .int e] => decide ((M.mk a b c e).det = 1)
  | _ => false
theorem isTurn_M (m : M) : isTurn m.D = decide (m.det = 1) := rfl
theorem tup4 {d : PyData} (h : isTupN 4 d = true) : ∃ m : M, d = m.D := by
  cases d with
  | tuple ds =>
    simp only [isTupN, Bool.and_eq_true, decide_eq_true_eq] at h
    obtain ⟨ns, rfl⟩ := nums_of h.2
    have hl := h.1
    rw [List.length_map] at hl
    match ns, hl with
    | [a, b, c, e], _ => exact ⟨⟨a, b, c, e⟩, rfl⟩
  | _ => simp [isTupN] at h
theorem isTurn_no {d : PyData} (h : isTupN 4 d = false) : isTurn d = false := by
  unfold isTurn
  split
  · simp [isTupN, isNum] at h
  · rfl
theorem gd_M {m : M} (h : Gd m.D) : m.bd IB := by
  have := h.ok
  simp only [M.D, okB_t, okL_c, okB_i, okL_n, Bool.and_eq_true, decide_eq_true_eq] at this
  exact ⟨this.1, this.2.1, this.2.2.1, this.2.2.2.1⟩
theorem isTurn_yes {d : PyData} (h : isTurn d = true) : ∃ m : M, d = m.D ∧ m.det = 1 := by
  unfold isTurn at h
  split at h
  · exact ⟨_, rfl, of_decide_eq_true h⟩
  · cases h
theorem rOk_nat {n : Nat} (h : n ≤ 1000000) : rOk (n : Int) := by
  unfold rOk
  omega
def isS (t : Str) : PyData → Bool
  | .str x => decide (x = t)
  | _ => false
theorem e_same_str (n : Nat) (d : PyData) (t : Str) : f__law_same (n + 1) [d, .str t] = some (.sh (.bool (isS t d))) := by
  cases d <;> simp [f__law_same, isS]
theorem e_same_bool (n : Nat) (p q : Bool) : f__law_same (n + 1) [.bool p, .bool q] = some (.sh (.bool (p == q))) := by
  cases p <;> cases q <;> simp [f__law_same, eqD, PyData.eqv]
theorem e_same_two (n : Nat) (p q : Bool) : f__law_same (n + 2) [.list [.bool p, .bool q], .list [.bool p, .bool q]] = some (.sh (.bool true)) := by
  have h1 := e_same_bool n p p
  have h2 := e_same_bool n q q
  have r : rOk 2 := rOk_nat (n := 2) (by decide)
  have e2 : rangeD 0 1 2 = [.int 0, .int 1] := rfl
  rw [f__law_same]
  simp [r, e2, forD, h1, h2]
def frs : PyData → Res
  | .list ds => .fr ds
  | d => .sh d
theorem frs_shr (d : PyData) : (frs d).shr = some d := by cases d <;> rfl
theorem lc_all {elt : Rh → Option Res} {i : Nat} {ρ : Rh} {r : PyData → Res} (hr : ∀ d, (r d).shr = some d) : ∀ ds : List PyData, (∀ d ∈ ds, elt (ρ.set i (some (.sh d))) = some (r d)) → lcD (gNm i) tYesD elt ρ ds = some ds
  | [], _ => by simp [lcD]
  | d :: ds, h => by
    have h1 := h d List.mem_cons_self
    have h2 := lc_all hr ds fun e he => h e (List.mem_cons_of_mem _ he)
    simp [lcD, h1, h2, hr]
theorem e_fresh : ∀ (n : Nat) (d : PyData), Gd d → d.depth < n → f__law_fresh n [d] = some (frs d)
  | 0, _, _, h => absurd h (Nat.not_lt_zero _)
  | n + 1, d, g, h => by
    rw [f__law_fresh]
    cases d with
    | list ds =>
      have hl : ds.length ≤ LIM := by
        have := g.few; have := cnL_len ds; simp only [cn_l] at *; unfold LIM; omega
      have := lc_all (elt := eFn (f__law_fresh n) (aCons (eVar 1) aNil)) (i := 1) (ρ := [some (.sh (.list ds)), none]) frs_shr ds fun d hd => by
        have h1 := dpA_mem hd
        have e := e_fresh n d (g.item hd) (by simp only [dp_l] at h; omega)
        simp [e]
      simp [hl, this, frs, wipeD]
    | tuple ds =>
      have hl : ds.length ≤ LIM := by
        have := g.few; have := cnL_len ds; simp only [cn_t] at *; unfold LIM; omega
      have := lc_all (elt := eFn (f__law_fresh n) (aCons (eVar 1) aNil)) (i := 1) (ρ := [some (.sh (.tuple ds)), none]) frs_shr ds fun d hd => by
        have h1 := dpA_mem hd
        have e := e_fresh n d (g.itemT hd) (by simp only [dp_t] at h; omega)
        simp [e]
      simp [hl, this, frs, wipeD]
    | _ => simp [frs]
def lt (k : Nat) (t : Int) : M := if k % 2 = 0 then ⟨1, t, 0, 1⟩ else ⟨1, 0, t, 1⟩
def a0 (ns : List Int) (k : Nat) : Int := ns[k]?.getD 0
def cyP (ns : List Int) : Nat → M
  | 0 => M.one
  | k + 1 => cyP ns k * lt k (a0 ns k)
def cyc (ns : List Int) : M := cyP ns ns.length
theorem one_bd : M.one.bd 1 := by simp [M.bd, M.one, Bd]
theorem lt_bd {n : Nat} {t : Int} (h : Bd n t) (k : Nat) : (lt k t).bd (n + 1) := by
  have h1 : Bd (n + 1) 1 := by
    show (1 : Nat) < 2 ^ (n + 1)
    exact Nat.one_lt_two_pow (by omega)
  have h0 : Bd (n + 1) 0 := by
    show (0 : Nat) < 2 ^ (n + 1)
    exact Nat.two_pow_pos _
  have ht := h.mono (Nat.le_succ n)
  unfold lt
  split <;> simp only [M.bd, h1, h0, ht, and_self]
theorem a0_bd {n : Nat} {ns : List Int} (h : ∀ i ∈ ns, Bd n i) (k : Nat) : Bd n (a0 ns k) := by
  unfold a0
  by_cases hk : k < ns.length
  · rw [List.getElem?_eq_getElem hk]
    exact h _ (List.getElem_mem hk)
  · rw [List.getElem?_eq_none (by omega)]
    exact Nat.two_pow_pos _
theorem cyP_bd {n : Nat} {ns : List Int} (h : ∀ i ∈ ns, Bd n i) : ∀ k : Nat, (cyP ns k).bd (1 + k * (n + 2))
  | 0 => one_bd.mono (by omega)
  | k + 1 => by
    have := (cyP_bd h k).mul (lt_bd (a0_bd h k) k)
    exact this.mono (by rw [Nat.succ_mul]; omega)
theorem for_rng {g : PyData → Rh → Option Rh} {b : Rh → Option Out} (S : Nat → Rh) {n : Nat} (h : ∀ k, k < n → (g (.int (k : Int)) (S k)).bind b = some (.nx (S (k + 1)))) : forD g b (rangeD 0 1 n) (S 0) = some (.nx (S n)) := by
  have : ∀ (m k : Nat), k + m = n → forD g b ((List.range' k m).map fun (j : Nat) => PyData.int (0 + (j : Int) * 1)) (S k) = some (.nx (S n)) := by
    intro m
    induction m with
    | zero =>
      intro k hk
      have : k = n := by omega
      subst this
      simp [forD]
    | succ m ih =>
      intro k hk
      rw [List.range'_succ, List.map_cons, forD]
      have e := h k (by omega)
      rw [show (0 + (k : Int) * 1) = (k : Int) by omega]
      obtain ⟨ρ1, e1, e2⟩ := bind_some e
      rw [e1, Option.bind_some, e2, Option.bind_some]
      exact ih (k + 1) (by omega)
  have := this n 0 (by omega)
  unfold rangeD
  rw [List.range_eq_range']
  exact this
theorem mod2 (k : Nat) : ((k : Int) % 2 == 0) = decide (k % 2 = 0) := by
  rw [Bool.eq_iff_iff, beq_iff_eq, decide_eq_true_eq]
  omega
theorem ints_at (ns : List Int) {k : Nat} (hk : k < ns.length) : (ns.map PyData.int)[k]? = some (.int (a0 ns k)) := by
  unfold a0
  rw [List.getElem?_map, List.getElem?_eq_getElem hk]
  rfl
theorem rsize2 {n : Nat} : Builtin.Range.rangeSize 0 (n : Int) 2 = (((n + 1) / 2 : Nat) : Int) := by
  unfold Builtin.Range.rangeSize
  simp only [show (2 : Int) > 0 by decide, if_true]
  split <;> omega
theorem rngD_s2 {n : Nat} (h : n ≤ 1000000) : rngD [0, (n : Int), 2] = some (rangeD 0 2 ((n + 1) / 2)) := by
  have e := rsize2 (n := n)
  have hs : Builtin.Range.small 0 (n : Int) 2 = true := by
    unfold Builtin.Range.small
    rw [e]
    have f : ∀ i : Int, 0 ≤ i → i ≤ 2000000 → Builtin.Range.rangeFitsLong i = true := fun i h0 h1 => by
      unfold Builtin.Range.rangeFitsLong
      rw [Bool.and_eq_true, decide_eq_true_eq, decide_eq_true_eq]
      constructor <;> omega
    rw [f 0 (by decide) (by decide), f _ (by omega) (by omega), f 2 (by decide) (by decide), f _ (by omega) (by omega), if_pos (by decide), f _ (by omega) (by omega), Bool.or_true]
    rfl
  rw [rngD_eq]
  show (if (2 : Int) ≠ 0 ∧ (2 : Int).natAbs < 1073741824 ∧ Builtin.Range.small 0 (n : Int) 2 = true ∧ 0 ≤ Builtin.Range.rangeSize 0 (n : Int) 2 then some (rangeD 0 2 (Builtin.Range.rangeSize 0 (n : Int) 2).toNat) else none) = _
  rw [if_pos ⟨by decide, by decide, hs, by rw [e]; omega⟩, e, Int.toNat_natCast]
theorem cut_from (ds : List PyData) (k : Nat) : cutD ds (some (k : Int)) none = ds.drop k := by
  unfold cutD
  rw [HT.sIx_nat, HT.sIx_none]
  by_cases h : k ≤ ds.length
  · rw [Nat.min_eq_left h, List.take_of_length_le (by rw [List.length_drop]; omega)]
  · rw [Nat.min_eq_right (by omega), List.drop_of_length_le (Nat.le_refl _), List.drop_of_length_le (by omega), List.take_nil]
theorem cut_to (ds : List PyData) (k : Nat) : cutD ds none (some (k : Int)) = ds.take k := by
  unfold cutD
  rw [HT.sIx_nat, HT.sIx_none, Nat.sub_zero, List.drop_zero]
  by_cases h : k ≤ ds.length
  · rw [Nat.min_eq_left h]
  · rw [Nat.min_eq_right (by omega), List.take_of_length_le (Nat.le_refl _), List.take_of_length_le (by omega)]
theorem cut_last (ds : List PyData) : cutD ds (some (-1)) none = ds.drop (ds.length - 1) := by
  unfold cutD
  have e : HT.sIx ds.length 0 (some (-1)) = ds.length - 1 := by
    show (if (-1 : Int) < 0 then ((-1 : Int) + (ds.length : Int)).toNat else min (-1 : Int).toNat ds.length) = _
    rw [if_pos (by decide)]
    omega
  rw [e, HT.sIx_none, List.take_of_length_le (by rw [List.length_drop]; omega)]
theorem cut_front (ds : List PyData) : cutD ds none (some (-1)) = ds.take (ds.length - 1) := by
  unfold cutD
  have e : HT.sIx ds.length ds.length (some (-1)) = ds.length - 1 := by
    show (if (-1 : Int) < 0 then ((-1 : Int) + (ds.length : Int)).toNat else min (-1 : Int).toNat ds.length) = _
    rw [if_pos (by decide)]
    omega
  rw [e, HT.sIx_none, Nat.sub_zero, List.drop_zero]
def rot (ns : List Int) (k : Nat) : List Int := ns.drop k ++ ns.take k
theorem rot_map (ns : List Int) (k : Nat) : (ns.map PyData.int).drop k ++ (ns.map PyData.int).take k = (rot ns k).map PyData.int := by
  unfold rot
  rw [List.map_append, List.map_drop, List.map_take]
theorem rot_len (ns : List Int) (k : Nat) : (rot ns k).length = ns.length := by
  unfold rot
  rw [List.length_append, List.length_drop, List.length_take]
  omega
theorem lens_map (ns : List Int) (k : Nat) (h : ns.length ≤ 1000) : ((ns.map PyData.int).drop k).length + ((ns.map PyData.int).take k).length ≤ LIM := by
  rw [List.length_drop, List.length_take, List.length_map]
  unfold LIM
  omega
theorem for_find {g : PyData → Rh → Option Rh} {b : Rh → Option Out} {p : Nat → Bool} {c : Nat → PyData} {r : Nat → Res} {ρ : Rh} : ∀ ks : List Nat, (∀ k ∈ ks, (g (c k) ρ).bind b = some (if p k = true then .rt (r k) else .nx ρ)) →
    forD g b (ks.map c) ρ = some (match ks.find? p with | some k => .rt (r k) | none => .nx ρ)
  | [], _ => by simp [forD]
  | k :: ks, h => by
    have hd := h k List.mem_cons_self
    obtain ⟨ρ1, e1, e2⟩ := bind_some hd
    have ih := for_find ks fun j hj => h j (List.mem_cons_of_mem _ hj)
    rw [List.map_cons, forD, e1, Option.bind_some, e2, Option.bind_some, List.find?_cons]
    by_cases hp : p k = true
    · simp only [hp, if_true]
    · have hp' : p k = false := by simpa using hp
      simp only [hp', Bool.false_eq_true, if_false]
      exact ih
def mt (ns ms : List Int) : Option Nat := (List.range ((ns.length + 1) / 2)).find? fun j => decide (rot ns (2 * j) = ms)
theorem range2 (n : Nat) : rangeD 0 2 n = (List.range n).map fun k => PyData.int ((2 * k : Nat) : Int) := by
  unfold rangeD
  congr
  funext k
  congr 1
  omega
theorem cyP_U (ns : List Int) (k : Nat) (h : k % 2 = 0) : cyP ns (k + 1) = ⟨(cyP ns k).a, (cyP ns k).b + (cyP ns k).a * a0 ns k, (cyP ns k).c, (cyP ns k).d + (cyP ns k).c * a0 ns k⟩ := by
  show cyP ns k * lt k (a0 ns k) = _
  rw [lt, if_pos h, M.mul_def]
  ext <;> simp only [] <;> omega
theorem cyP_L (ns : List Int) (k : Nat) (h : ¬ k % 2 = 0) : cyP ns (k + 1) = ⟨(cyP ns k).a + (cyP ns k).b * a0 ns k, (cyP ns k).b, (cyP ns k).c + (cyP ns k).d * a0 ns k, (cyP ns k).d⟩ := by
  show cyP ns k * lt k (a0 ns k) = _
  rw [lt, if_neg h, M.mul_def]
  ext <;> simp only [] <;> omega
theorem for_inv {g : PyData → Rh → Option Rh} {b : Rh → Option Out} (I : Nat → Rh → Prop) : ∀ (ds : List PyData) (n : Nat) (ρ : Rh), (∀ k d ρ, ds[k]? = some d → I (n + k) ρ → ∃ ρ', (g d ρ).bind b = some (.nx ρ') ∧ I (n + k + 1) ρ') → I n ρ → ∃ ρ', forD g b ds ρ = some (.nx ρ') ∧ I (n + ds.length) ρ'
  | [], n, ρ, _, h => ⟨ρ, rfl, h⟩
  | d :: ds, n, ρ, hs, h => by
    obtain ⟨ρ', e, h'⟩ := hs 0 d ρ rfl h
    obtain ⟨ρ1, e1, e2⟩ := bind_some e
    obtain ⟨ρ2, e3, h3⟩ := for_inv I ds (n + 1) ρ' (fun k d ρ hk hI => by
      have := hs (k + 1) d ρ (by simpa using hk) (by rw [show n + (k + 1) = n + 1 + k by omega]; exact hI)
      rw [show n + (k + 1) + 1 = n + 1 + k + 1 by omega] at this
      exact this) h'
    refine ⟨ρ2, ?_, by rw [List.length_cons, show n + (ds.length + 1) = n + 1 + ds.length by omega]; exact h3⟩
    rw [forD, e1, Option.bind_some, e2, Option.bind_some]
    exact e3
def Dr (f : List Int) : Prop := ∀ i ∈ f, 0 ≤ i ∧ i < 1000003
theorem Dr.app {f : List Int} {i : Int} (h : Dr f) (h0 : 0 ≤ i) (h1 : i < 1000003) : Dr (f ++ [i]) := fun j hj => by
  rcases List.mem_append.mp hj with hj | hj
  · exact h j hj
  · rcases List.mem_singleton.mp hj with rfl
    exact ⟨h0, h1⟩
theorem sApp_int {ρ : Rh} {k : Nat} {e : Rh → Option Res} {fs : List Int} {i : Int} (h : ρ[k]? = some (some (.bo (fs.map .int)))) (he : e ρ = some (.sh (.int i))) (hl : fs.length < 1000000) : sApp k e ρ = some (.nx (ρ.set k (some (.bo ((fs ++ [i]).map .int))))) := by
  rw [sApp_eq h, he]
  have : (fs.map PyData.int).length < LIM := by rw [List.length_map]; exact hl
  simp only [Option.bind_some, shr_s, this, if_true, List.map_append, List.map_cons, List.map_nil]
theorem rng_get {n k : Nat} {d : PyData} (h : (rangeD 0 1 n)[k]? = some d) : k < n ∧ d = .int (k : Int) := by
  obtain ⟨h1, h2⟩ := rangeD_get h
  refine ⟨h1, ?_⟩
  rw [h2]
  congr 1
  omega
theorem draws_big (q w c : Option Res) (v : Int) (h0 : 0 ≤ v) (fs : List Int) (hf : Dr fs) (n : Nat) (hl : fs.length + n < 900000) :
    ∃ (gs : List Int) (u : Int), forD (gNm 5) (sFo [5] (sIf (tOf (eBin gtR (eVar 4) (eC (.int 0))))
  (sSeq (sApp 2 (eBin modR (eVar 4) (eC (.int 1000003))))
 (sSet 4 (eBin fdivR (eVar 4) (eC (.int 1000003)))))
  sPass)) (rangeD 0 1 n) [q, w, some (.bo (fs.map .int)), c, some (.sh (.int v)), none, none, none] = some (.nx [q, w, some (.bo (gs.map .int)), c, some (.sh (.int u)), none, none, none]) ∧ Dr gs ∧ gs.length ≤ fs.length + n := by
  obtain ⟨ρ', e, gs, u, rfl, h1, h2, h3⟩ := for_inv (g := gNm 5) (b := (sFo [5] (sIf (tOf (eBin gtR (eVar 4) (eC (.int 0))))
  (sSeq (sApp 2 (eBin modR (eVar 4) (eC (.int 1000003))))
 (sSet 4 (eBin fdivR (eVar 4) (eC (.int 1000003)))))
  sPass))) (fun k ρ => ∃ (gs : List Int) (u : Int), ρ = [q, w, some (.bo (gs.map .int)), c, some (.sh (.int u)), none, none, none] ∧ Dr gs ∧ gs.length ≤ fs.length + k ∧ 0 ≤ u) (rangeD 0 1 n) 0 [q, w, some (.bo (fs.map .int)), c, some (.sh (.int v)), none, none, none]
    (fun k d ρ hk hI => by
      obtain ⟨hkn, rfl⟩ := rng_get hk
      obtain ⟨gs, u, rfl, i1, i2, i3⟩ := hI
      by_cases hu : 0 < u
      · have hd : divOk 1000003 := divOk_of (n := 20) (by decide) (by decide) (by decide)
        refine ⟨_, ?_, gs ++ [u % 1000003], u / 1000003, rfl, i1.app (Int.emod_nonneg _ (by decide)) (Int.emod_lt_of_pos _ (by decide)), ?_, ?_⟩
        · have ha := sApp_int (ρ := [q, w, some (.bo (gs.map .int)), c, some (.sh (.int u)), some (.sh (.int (k : Int))), none, none]) (k := 2) (e := eBin modR (eVar 4) (eC (.int 1000003))) (fs := gs) (i := u % 1000003) rfl (by simp) (by omega)
          simp only [gNm, Option.bind_some, sFo_eq, sIf, sSeq_eq, List.set]
          simp [hu, ha, hd]
        · rw [List.length_append]
          simp
          omega
        · omega
      · exact ⟨_, by simp [hu], gs, u, rfl, i1, by omega, i3⟩) ⟨fs, v, rfl, hf, by omega, h0⟩
  rw [rangeD_len] at h2
  exact ⟨gs, u, e, h1, by omega⟩
theorem draws_four (q w c v : Option Res) (m : Int) (h0 : 0 ≤ m) (h1 : m < 2147483647) (fs : List Int) (hf : Dr fs) (n : Nat) (hn : n ≤ 100) (hl : fs.length + n < 900000) :
    ∃ (gs : List Int) (u : Int), forD (gNm 5) (sFo [5] (sSeq (sSet 6 (eBin modR (eBin addR (eBin addR (eBin addR (eBin mulI (eVar 6) (eC (.int 69621))) (eBin fdivR (eVar 6) (eC (.int 65536)))) (eBin mulI (eC (.int 13)) (eVar 5))) (eC (.int 5))) (eC (.int 2147483629))))
 (sApp 2 (eBin modR (eBin fdivR (eVar 6) (eC (.int 8))) (eC (.int 1000003)))))) (rangeD 0 1 n) [q, w, some (.bo (fs.map .int)), c, v, none, some (.sh (.int m)), none] = some (.nx [q, w, some (.bo (gs.map .int)), c, v, none, some (.sh (.int u)), none]) ∧ Dr gs ∧ gs.length ≤ fs.length + n := by
  obtain ⟨ρ', e, gs, u, rfl, h1, h2, h3⟩ := for_inv (g := gNm 5) (b := (sFo [5] (sSeq (sSet 6 (eBin modR (eBin addR (eBin addR (eBin addR (eBin mulI (eVar 6) (eC (.int 69621))) (eBin fdivR (eVar 6) (eC (.int 65536)))) (eBin mulI (eC (.int 13)) (eVar 5))) (eC (.int 5))) (eC (.int 2147483629))))
 (sApp 2 (eBin modR (eBin fdivR (eVar 6) (eC (.int 8))) (eC (.int 1000003))))))) (fun k ρ => ∃ (gs : List Int) (u : Int), ρ = [q, w, some (.bo (gs.map .int)), c, v, none, some (.sh (.int u)), none] ∧ Dr gs ∧ gs.length ≤ fs.length + k ∧ 0 ≤ u ∧ u < 2147483647) (rangeD 0 1 n) 0 [q, w, some (.bo (fs.map .int)), c, v, none, some (.sh (.int m)), none]
    (fun k d ρ hk hI => by
      obtain ⟨hkn, rfl⟩ := rng_get hk
      obtain ⟨gs, u, rfl, i1, i2, i3, i4⟩ := hI
      have bu : Bd 32 u := bd_of (by omega) (by omega)
      have bk : Bd 32 (k : Int) := bd_of (by omega) (by omega)
      have m1 : mulOk u 69621 := mulOk_of bu (show Bd 32 69621 by decide) (by decide)
      have m2 : mulOk 13 (k : Int) := mulOk_of (show Bd 32 13 by decide) bk (by decide)
      have d1 : divOk 65536 := divOk_of (n := 20) (by decide) (by decide) (by decide)
      have d2 : divOk 8 := divOk_of (n := 20) (by decide) (by decide) (by decide)
      obtain ⟨z, hz⟩ : ∃ z : Int, z = (u * 69621 + u / 65536 + 13 * (k : Int) + 5) % 2147483629 := ⟨_, rfl⟩
      have z0 : 0 ≤ z := by rw [hz]; exact Int.emod_nonneg _ (by decide)
      have z1 : z < 2147483629 := by rw [hz]; exact Int.emod_lt_of_pos _ (by decide)
      have ha := sApp_int (ρ := [q, w, some (.bo (gs.map .int)), c, v, some (.sh (.int (k : Int))), some (.sh (.int z)), none]) (k := 2) (e := eBin modR (eBin fdivR (eVar 6) (eC (.int 8))) (eC (.int 1000003))) (fs := gs) (i := z / 8 % 1000003) rfl (by simp [d2]) (by omega)
      refine ⟨_, ?_, gs ++ [z / 8 % 1000003], z, rfl, i1.app (Int.emod_nonneg _ (by decide)) (Int.emod_lt_of_pos _ (by decide)), ?_, z0, by omega⟩
      · simp [m1, m2, d1, ← hz, ha]
      · rw [List.length_append]
        simp
        omega) ⟨fs, m, rfl, hf, by omega, h0, h1⟩
  rw [rangeD_len] at h2
  exact ⟨gs, u, e, h1, by omega⟩
theorem draws_fill (q c v x : Option Res) (fs : List Int) (hf : Dr fs) (n : Nat) (hn : n ≤ 100) (hl : fs.length < 800000) :
    ∃ (gs : List Int), forD (gNm 5) (sFo [5, 7] (sFo [7] (sIf (tOf (eBin ltR (eCall (on1 lenR) (aCons (eVar 2) aNil)) (eVar 1)))
  (sSeq (sSet 7 (eC (.int 0)))
 (sSeq (sIf (tOf (eBin gtR (eCall (on1 lenR) (aCons (eVar 2) aNil)) (eC (.int 0))))
  (sSet 7 (eBin ixR (eVar 2) (eBin modR (eVar 5) (eCall (on1 lenR) (aCons (eVar 2) aNil)))))
  sPass)
 (sApp 2 (eBin modR (eBin addR (eBin addR (eBin mulI (eVar 7) (eC (.int 16807))) (eBin mulI (eC (.int 31)) (eCall (on1 lenR) (aCons (eVar 2) aNil)))) (eC (.int 17))) (eC (.int 1000003))))))
  sPass))) (rangeD 0 1 n) [q, some (.sh (.int (n : Int))), some (.bo (fs.map .int)), c, v, none, x, none] = some (.nx [q, some (.sh (.int (n : Int))), some (.bo (gs.map .int)), c, v, none, x, none]) ∧ Dr gs ∧ gs.length ≤ fs.length + n ∧ n ≤ gs.length := by
  obtain ⟨ρ', e, gs, rfl, h1, h2, h3⟩ := for_inv (g := gNm 5) (b := (sFo [5, 7] (sFo [7] (sIf (tOf (eBin ltR (eCall (on1 lenR) (aCons (eVar 2) aNil)) (eVar 1)))
  (sSeq (sSet 7 (eC (.int 0)))
 (sSeq (sIf (tOf (eBin gtR (eCall (on1 lenR) (aCons (eVar 2) aNil)) (eC (.int 0))))
  (sSet 7 (eBin ixR (eVar 2) (eBin modR (eVar 5) (eCall (on1 lenR) (aCons (eVar 2) aNil)))))
  sPass)
 (sApp 2 (eBin modR (eBin addR (eBin addR (eBin mulI (eVar 7) (eC (.int 16807))) (eBin mulI (eC (.int 31)) (eCall (on1 lenR) (aCons (eVar 2) aNil)))) (eC (.int 17))) (eC (.int 1000003))))))
  sPass)))) (fun k ρ => ∃ (gs : List Int), ρ = [q, some (.sh (.int (n : Int))), some (.bo (gs.map .int)), c, v, none, x, none] ∧ Dr gs ∧ gs.length ≤ fs.length + k ∧ (n ≤ gs.length ∨ k ≤ gs.length)) (rangeD 0 1 n) 0 [q, some (.sh (.int (n : Int))), some (.bo (fs.map .int)), c, v, none, x, none]
    (fun k d ρ hk hI => by
      obtain ⟨hkn, rfl⟩ := rng_get hk
      obtain ⟨gs, rfl, i1, i2, i3⟩ := hI
      by_cases hu : gs.length < n
      · obtain ⟨b, hb⟩ : ∃ b : Int, b = if 0 < gs.length then a0 gs (k % gs.length) else 0 := ⟨_, rfl⟩
        have hbd : 0 ≤ b ∧ b < 1000003 := by
          rw [hb]
          split
          · rename_i hp
            have hm := Nat.mod_lt k hp
            unfold a0
            rw [List.getElem?_eq_getElem hm]
            exact i1 _ (List.getElem_mem hm)
          · exact ⟨by decide, by decide⟩
        have m1 : mulOk b 16807 := mulOk_of (bd_of (n := 32) (by omega) (by omega)) (show Bd 32 16807 by decide) (by decide)
        have m2 : mulOk 31 (gs.length : Int) := mulOk_of (show Bd 32 31 by decide) (bd_of (n := 32) (by omega) (by omega)) (by decide)
        have ha := sApp_int (ρ := [q, some (.sh (.int (n : Int))), some (.bo (gs.map .int)), c, v, some (.sh (.int (k : Int))), x, some (.sh (.int b))]) (k := 2) (e := (eBin modR (eBin addR (eBin addR (eBin mulI (eVar 7) (eC (.int 16807))) (eBin mulI (eC (.int 31)) (eCall (on1 lenR) (aCons (eVar 2) aNil)))) (eC (.int 17))) (eC (.int 1000003)))) (fs := gs) (i := (b * 16807 + 31 * (gs.length : Int) + 17) % 1000003) rfl (by simp [m1, m2]) (by omega)
        refine ⟨_, ?_, gs ++ [(b * 16807 + 31 * (gs.length : Int) + 17) % 1000003], rfl, i1.app (Int.emod_nonneg _ (by decide)) (Int.emod_lt_of_pos _ (by decide)), ?_, ?_⟩
        · by_cases hp : 0 < gs.length
          · rw [if_pos hp] at hb
            have hm := Nat.mod_lt k hp
            have e2 := ints_at gs hm
            have hp' : (0 : Int) < gs.length := by omega
            have e3 : atI (gs.map PyData.int) ((k : Int) % (gs.length : Int)) = some (.int b) := by
              rw [show ((k : Int) % (gs.length : Int)) = ((k % gs.length : Nat) : Int) by omega, atI_nat', e2, hb]
            simp [hu, hp', hp, e3, ha]
          · rw [if_neg hp] at hb
            have hg : gs = [] := List.eq_nil_of_length_eq_zero (by omega)
            subst hb hg
            have hn0 : 0 < n := by simpa using hu
            simp at ha
            simp [hn0, ha]
        · rw [List.length_append]
          simp
          omega
        · rw [List.length_append]
          simp
          omega
      · exact ⟨_, by simp [hu], gs, rfl, i1, by omega, by omega⟩) ⟨fs, rfl, hf, by omega, Or.inr (Nat.zero_le _)⟩
  rw [rangeD_len] at h2 h3
  exact ⟨gs, e, h1, by omega, by omega⟩
theorem lc_rng {elt : Rh → Option Res} {i : Nat} {ρ : Rh} (c : Nat → Int) (n : Nat) (h : ∀ k, k < n → elt (ρ.set i (some (.sh (.int (k : Int))))) = some (.sh (.int (c k)))) : lcD (gNm i) tYesD elt ρ (rangeD 0 1 n) = some (((List.range n).map c).map .int) := by
  have : ∀ (m k : Nat), k + m = n → lcD (gNm i) tYesD elt ρ ((List.range' k m).map fun (j : Nat) => PyData.int (0 + (j : Int) * 1)) = some (((List.range' k m).map c).map .int) := by
    intro m
    induction m with
    | zero => intro k hk; simp [lcD]
    | succ m ih =>
      intro k hk
      have e := h k (by omega)
      have e2 := ih (k + 1) (by omega)
      rw [List.range'_succ, List.map_cons, List.map_cons, List.map_cons, lcD]
      rw [show (0 + (k : Int) * 1) = (k : Int) by omega]
      simp only [gNm, Option.bind_some, tYesD, if_true, e, shr_s, e2]
  have := this n 0 (by omega)
  unfold rangeD
  rw [List.range_eq_range']
  exact this
theorem pick_map (ns : List Int) (lo hi st : Option Int) : pickD (ns.map PyData.int) lo hi st = (pickD ns lo hi st).map PyData.int := by
  unfold pickD
  rw [List.length_map]
  generalize sliceRange _ _ _ = ks
  induction ks with
  | nil => rfl
  | cons k ks ih =>
    rw [List.filterMap_cons, List.filterMap_cons, List.getElem?_map]
    cases ns[k]? <;> simp only [Option.map_none, Option.map_some, ih, List.map_cons]
theorem pick_mem {α : Type} {xs : List α} {lo hi st : Option Int} {x : α} (h : x ∈ pickD xs lo hi st) : x ∈ xs := by
  unfold pickD at h
  obtain ⟨k, _, hk⟩ := List.mem_filterMap.mp h
  exact List.mem_of_getElem? hk
theorem pick_le {α : Type} (xs : List α) (lo hi st : Option Int) : (pickD xs lo hi st).length ≤ (sliceRange (sliceBounds lo hi st xs.length).1 (sliceBounds lo hi st xs.length).2.1 (sliceBounds lo hi st xs.length).2.2).length := by
  unfold pickD
  exact List.length_filterMap_le _ _
theorem pick_len {α : Type} (xs : List α) (ks : List Nat) (h : ∀ k ∈ ks, k < xs.length) : (ks.filterMap (xs[·]?)).length = ks.length := by
  induction ks with
  | nil => rfl
  | cons k ks ih =>
    have hk := h k List.mem_cons_self
    rw [List.filterMap_cons, List.getElem?_eq_getElem hk, List.length_cons, List.length_cons, ih fun j hj => h j (List.mem_cons_of_mem _ hj)]
theorem rev_len {α : Type} (xs : List α) (h : xs.length ≤ 14) : (pickD xs none none (some (-1))).length = xs.length := by
  have h0 : ∀ n : Nat, n ≤ 14 → (sliceRange (sliceBounds none none (some (-1)) n).1 (sliceBounds none none (some (-1)) n).2.1 (sliceBounds none none (some (-1)) n).2.2).length = n ∧ ∀ k ∈ (sliceRange (sliceBounds none none (some (-1)) n).1 (sliceBounds none none (some (-1)) n).2.1 (sliceBounds none none (some (-1)) n).2.2), k < n := by
    decide
  obtain ⟨h1, h2⟩ := h0 _ h
  unfold pickD
  rw [pick_len _ _ h2, h1]
theorem rev1_len {α : Type} (xs : List α) (h2 : 2 ≤ xs.length) (h : xs.length ≤ 14) : (pickD xs (some 1) none (some (-1))).length = 2 := by
  have h0 : ∀ n : Nat, n ≤ 14 → 2 ≤ n → (sliceRange (sliceBounds (some 1) none (some (-1)) n).1 (sliceBounds (some 1) none (some (-1)) n).2.1 (sliceBounds (some 1) none (some (-1)) n).2.2).length = 2 ∧ ∀ k ∈ (sliceRange (sliceBounds (some 1) none (some (-1)) n).1 (sliceBounds (some 1) none (some (-1)) n).2.1 (sliceBounds (some 1) none (some (-1)) n).2.2), k < n := by
    decide
  obtain ⟨h1, h2⟩ := h0 _ h h2
  unfold pickD
  rw [pick_len _ _ h2, h1]
structure Cy (l : List Int) : Prop where
  lo : 2 ≤ l.length
  hi : l.length ≤ 14
  ev : l.length % 2 = 0
  all : ∀ i ∈ l, 1 ≤ i ∧ i ≤ 10000
theorem cy_rot {l : List Int} (h : Cy l) (k : Nat) : Cy (rot l k) := by
  refine ⟨by rw [rot_len]; exact h.lo, by rw [rot_len]; exact h.hi, by rw [rot_len]; exact h.ev, fun i hi => ?_⟩
  unfold rot at hi
  rcases List.mem_append.mp hi with hi | hi
  · exact h.all i (List.mem_of_mem_drop hi)
  · exact h.all i (List.mem_of_mem_take hi)
noncomputable def cy_tail : Rh → Option Out := (sSeq (sSet 4 (eLc (itRng (aCons (eVar 2) aNil)) (gNm 7) tYesD (eBin addR (eC (.int 1)) (eBin modR (eBin ixR (eVar 0) (eBin addR (eBin addR (eVar 1) (eC (.int 1))) (eVar 7))) (eVar 3))) [7]))
 (sSeq (sSet 5 (eBin modR (eBin ixR (eVar 0) (eBin addR (eVar 1) (eC (.int 13)))) (eC (.int 8))))
 (sSeq (sSet 6 (eBin addR (eSl (eVar 4) (oIs (eC (.int 2))) oNo) (eSl (eVar 4) oNo (oIs (eC (.int 2))))))
 (sSeq (sIf (tOf (eBin eqR (eVar 5) (eC (.int 4))))
  (sSet 6 (eBin addR (eSl (eVar 4) (oIs (eC (.int 1))) oNo) (eSl (eVar 4) oNo (oIs (eC (.int 1))))))
  sPass)
 (sSeq (sIf (tOf (eBin eqR (eVar 5) (eC (.int 5))))
  (sSet 6 (eSl3 (eVar 4) oNo oNo (oIs (eUn negR (eC (.int 1))))))
  sPass)
 (sSeq (sIf (tOf (eBin eqR (eVar 5) (eC (.int 6))))
  (sSet 6 (eBin addR (eSl3 (eVar 4) (oIs (eC (.int 1))) oNo (oIs (eUn negR (eC (.int 1))))) (eSl (eVar 4) (oIs (eC (.int 2))) oNo)))
  sPass)
 (sSeq (sIf (tOf (eBin eqR (eVar 5) (eC (.int 7))))
  (sSet 6 (eLc (itRng (aCons (eVar 2) aNil)) (gNm 7) tYesD (eBin addR (eC (.int 1)) (eBin modR (eBin ixR (eVar 0) (eBin subR (eBin addR (eVar 1) (eC (.int 12))) (eVar 7))) (eVar 3))) [7]))
  sPass)
 (sSeq (sIf (tOf (eBin eqR (eVar 5) (eC (.int 3))))
  (sSet 6 (eBin addR (eVar 4) (eSl (eVar 4) oNo (oIs (eC (.int 2))))))
  sPass)
 (sFrz [4, 6] (sRet (eTup (aCons (eVar 4) (aCons (eVar 6) aNil)))))))))))))
theorem a0_in {ds : List Int} {k : Nat} (hd : Dr ds) (hk : k < ds.length) : 0 ≤ a0 ds k ∧ a0 ds k < 1000003 := by
  unfold a0
  rw [List.getElem?_eq_getElem hk]
  exact hd _ (List.getElem_mem hk)
theorem cy_tail_ok {ds : List Int} (hd : Dr ds) (hl : ds.length = 24) (n : Nat) (h2 : 2 ≤ n) (h12 : n ≤ 12) (hev : n % 2 = 0) (most : Int) (hm0 : 0 < most) (hm1 : most ≤ 10000) :
    ∃ a b : List Int, finD (cy_tail [some (.sh (.list (ds.map .int))), some (.sh (.int 0)), some (.sh (.int (n : Int))), some (.sh (.int most)), none, none, none, none]) = some (.sh (.tuple [.list (a.map .int), .list (b.map .int)])) ∧ Cy a ∧ Cy b := by
  have r : rOk (n : Int) := rOk_nat (by omega)
  obtain ⟨c, hc⟩ : ∃ c : List Int, c = (List.range n).map fun k => 1 + a0 ds (1 + k) % most := ⟨_, rfl⟩
  obtain ⟨c', hc'⟩ : ∃ c : List Int, c = (List.range n).map fun k => 1 + a0 ds (12 - k) % most := ⟨_, rfl⟩
  have hcl : c.length = n := by rw [hc, List.length_map, List.length_range]
  have hcl' : c'.length = n := by rw [hc', List.length_map, List.length_range]
  have hmod : ∀ x : Int, 1 ≤ 1 + x % most ∧ 1 + x % most ≤ 10000 := fun x => by
    have g1 := Int.emod_nonneg x (show most ≠ 0 by omega)
    have g2 := Int.emod_lt_of_pos x hm0
    omega
  have C : Cy c := ⟨by omega, by omega, by omega, fun i hi => by
    rw [hc] at hi
    obtain ⟨k, _, rfl⟩ := List.mem_map.mp hi
    exact hmod _⟩
  have C' : Cy c' := ⟨by omega, by omega, by omega, fun i hi => by
    rw [hc'] at hi
    obtain ⟨k, _, rfl⟩ := List.mem_map.mp hi
    exact hmod _⟩
  have l1 : ∀ (x y z : Option Res), lcD (gNm 7) tYesD (eBin addR (eC (.int 1)) (eBin modR (eBin ixR (eVar 0) (eBin addR (eBin addR (eVar 1) (eC (.int 1))) (eVar 7))) (eVar 3))) [some (.sh (.list (ds.map .int))), some (.sh (.int 0)), some (.sh (.int (n : Int))), some (.sh (.int most)), x, y, z, none] (rangeD 0 1 n) = some (c.map .int) := fun x y z => by
    rw [hc]
    refine lc_rng _ n fun k hk => ?_
    have e := ints_at ds (k := 1 + k) (by omega)
    have e2 : atI (ds.map PyData.int) (1 + (k : Int)) = some (.int (a0 ds (1 + k))) := by
      rw [show (1 + (k : Int)) = ((1 + k : Nat) : Int) by omega, atI_nat', e]
    simp [e2, hm0]
  have l2 : ∀ (x y z : Option Res), lcD (gNm 7) tYesD (eBin addR (eC (.int 1)) (eBin modR (eBin ixR (eVar 0) (eBin subR (eBin addR (eVar 1) (eC (.int 12))) (eVar 7))) (eVar 3))) [some (.sh (.list (ds.map .int))), some (.sh (.int 0)), some (.sh (.int (n : Int))), some (.sh (.int most)), x, y, z, none] (rangeD 0 1 n) = some (c'.map .int) := fun x y z => by
    rw [hc']
    refine lc_rng _ n fun k hk => ?_
    have e := ints_at ds (k := 12 - k) (by omega)
    have e2 : atI (ds.map PyData.int) (12 - (k : Int)) = some (.int (a0 ds (12 - k))) := by
      rw [show (12 - (k : Int)) = ((12 - k : Nat) : Int) by omega, atI_nat', e]
    simp [e2, hm0]
  have hlen : (rangeD 0 1 n).length ≤ 1000000 := by rw [rangeD_len]; omega
  have e13 : atI (ds.map PyData.int) 13 = some (.int (a0 ds 13)) := by
    rw [show (13 : Int) = ((13 : Nat) : Int) from rfl, atI_nat', ints_at ds (by omega)]
  obtain ⟨kd, hkd⟩ : ∃ kd : Int, kd = a0 ds 13 % 8 := ⟨_, rfl⟩
  have f2 : cutD (c.map PyData.int) (some 2) none = (c.map PyData.int).drop 2 := cut_from _ 2
  have t2 : cutD (c.map PyData.int) none (some 2) = (c.map PyData.int).take 2 := cut_to _ 2
  have f1 : cutD (c.map PyData.int) (some 1) none = (c.map PyData.int).drop 1 := cut_from _ 1
  have t1 : cutD (c.map PyData.int) none (some 1) = (c.map PyData.int).take 1 := cut_to _ 1
  have q1 : c.length - 2 + min 2 c.length ≤ 1000000 := by omega
  have q2 : c.length - 1 + min 1 c.length ≤ 1000000 := by omega
  have q3 : c.length + min 2 c.length ≤ 1000000 := by omega
  have q4 : (pickD c (some 1) none (some (-1))).length + (c.length - 2) ≤ 1000000 := by
    have := rev1_len c (by omega) (by omega)
    omega
  have r2 := rot_map c 2
  have r1 := rot_map c 1
  by_cases k4 : kd = 4
  · refine ⟨c, rot c 1, ?_, C, cy_rot C 1⟩
    rw [← r1]
    simp [cy_tail, r, hlen, wipeD, l1, e13, ← hkd, f2, t2, f1, t1, q1, q2, k4, frz1]
  · by_cases k5 : kd = 5
    · have P : Cy (pickD c none none (some (-1))) := ⟨by rw [rev_len c (by omega)]; omega, by rw [rev_len c (by omega)]; omega, by rw [rev_len c (by omega)]; omega, fun i hi => C.all i (pick_mem hi)⟩
      have e := pick_map c none none (some (-1))
      refine ⟨c, _, ?_, C, P⟩
      simp [cy_tail, r, hlen, wipeD, l1, e13, ← hkd, f2, t2, q1, k5, frz1, e]
    · by_cases k6 : kd = 6
      · have hp := rev1_len c (by omega) (by omega)
        have P : Cy (pickD c (some 1) none (some (-1)) ++ c.drop 2) := by
          have hl : (pickD c (some 1) none (some (-1)) ++ c.drop 2).length = n := by rw [List.length_append, hp, List.length_drop]; omega
          refine ⟨by omega, by omega, by omega, fun i hi => ?_⟩
          rcases List.mem_append.mp hi with hi | hi
          · exact C.all i (pick_mem hi)
          · exact C.all i (List.mem_of_mem_drop hi)
        have e := pick_map c (some 1) none (some (-1))
        refine ⟨c, _, ?_, C, P⟩
        simp [cy_tail, r, hlen, wipeD, l1, e13, ← hkd, f2, t2, q1, q4, k6, frz1, e]
      · by_cases k7 : kd = 7
        · refine ⟨c, c', ?_, C, C'⟩
          simp [cy_tail, r, hlen, wipeD, l1, l2, e13, ← hkd, f2, t2, q1, k7, frz1]
        · by_cases k3 : kd = 3
          · have P : Cy (c ++ c.take 2) := by
              have hl : (c ++ c.take 2).length = n + 2 := by rw [List.length_append, List.length_take]; omega
              refine ⟨by omega, by omega, by omega, fun i hi => ?_⟩
              rcases List.mem_append.mp hi with hi | hi
              · exact C.all i hi
              · exact C.all i (List.mem_of_mem_take hi)
            refine ⟨c, _, ?_, C, P⟩
            simp [cy_tail, r, hlen, wipeD, l1, e13, ← hkd, f2, t2, q1, q3, k3, frz1]
          · refine ⟨c, rot c 2, ?_, C, cy_rot C 2⟩
            rw [← r2]
            simp [cy_tail, r, hlen, wipeD, l1, e13, ← hkd, f2, t2, q1, k3, k4, k5, k6, k7, frz1]
theorem cy_head {ds : List Int} (hd : Dr ds) (hl : ds.length = 24) (T : Rh → Option Out) (hT : ∀ (n : Nat), 2 ≤ n → n ≤ 12 → n % 2 = 0 → ∀ most : Int, 0 < most → most ≤ 10000 → ∃ a b : List Int, finD (T [some (.sh (.list (ds.map .int))), some (.sh (.int 0)), some (.sh (.int (n : Int))), some (.sh (.int most)), none, none, none, none]) = some (.sh (.tuple [.list (a.map .int), .list (b.map .int)])) ∧ Cy a ∧ Cy b) :
    ∃ a b : List Int, finD ((sSeq (sSet 2 (eBin addR (eC (.int 2)) (eBin mulI (eC (.int 2)) (eBin modR (eBin ixR (eVar 0) (eVar 1)) (eC (.int 3))))))
 (sSeq (sSet 3 (eC (.int 4)))
 (sSeq (sIf (tOf (eBin eqR (eBin modR (eBin fdivR (eBin ixR (eVar 0) (eVar 1)) (eC (.int 3))) (eC (.int 8))) (eC (.int 3))))
  (sSeq (sSet 2 (eBin addR (eC (.int 2)) (eBin mulI (eC (.int 2)) (eBin modR (eBin fdivR (eBin ixR (eVar 0) (eVar 1)) (eC (.int 24))) (eC (.int 6))))))
 (sSet 3 (eC (.int 2))))
  sPass)
 (sSeq (sIf (tOf (eBin eqR (eBin modR (eBin fdivR (eBin ixR (eVar 0) (eVar 1)) (eC (.int 3))) (eC (.int 8))) (eC (.int 5))))
  (sSeq (sSet 2 (eC (.int 2)))
 (sSet 3 (eBin powR (eC (.int 10)) (eC (.int 4)))))
  sPass) T)))) [some (.sh (.list (ds.map .int))), some (.sh (.int 0)), none, none, none, none, none, none]) = some (.sh (.tuple [.list (a.map .int), .list (b.map .int)])) ∧ Cy a ∧ Cy b := by
  obtain ⟨x, hx⟩ : ∃ x : Int, x = a0 ds 0 := ⟨_, rfl⟩
  have x0 := a0_in hd (k := 0) (by omega)
  rw [← hx] at x0
  have e0 : (ds.map PyData.int)[0]? = some (.int x) := by rw [ints_at ds (by omega), hx]
  have m1 : mulOk 2 (x % 3) := mulOk_of (show Bd 32 2 by decide) (bd_of (n := 32) (by omega) (by omega)) (by decide)
  have m2 : mulOk 2 (x / 24 % 6) := mulOk_of (show Bd 32 2 by decide) (bd_of (n := 32) (by omega) (by omega)) (by decide)
  have d3 : divOk 3 := divOk_of (n := 20) (by decide) (by decide) (by decide)
  have d24 : divOk 24 := divOk_of (n := 20) (by decide) (by decide) (by decide)
  by_cases h3 : x / 3 % 8 = 3
  · obtain ⟨a, b, e, A, B⟩ := hT (2 + 2 * (x / 24 % 6).toNat) (by omega) (by omega) (by omega) 2 (by decide) (by decide)
    rw [show ((2 + 2 * (x / 24 % 6).toNat : Nat) : Int) = 2 + 2 * (x / 24 % 6) by omega] at e
    refine ⟨a, b, ?_, A, B⟩
    simp [e0, m1, m2, d3, d24, h3, e]
  · by_cases h5 : x / 3 % 8 = 5
    · obtain ⟨a, b, e, A, B⟩ := hT 2 (by omega) (by omega) (by omega) 10000 (by decide) (by decide)
      rw [show ((2 : Nat) : Int) = 2 from rfl] at e
      refine ⟨a, b, ?_, A, B⟩
      simp [e0, m1, m2, d3, d24, h5, e]
    · obtain ⟨a, b, e, A, B⟩ := hT (2 + 2 * (x % 3).toNat) (by omega) (by omega) (by omega) 4 (by decide) (by decide)
      rw [show ((2 + 2 * (x % 3).toNat : Nat) : Int) = 2 + 2 * (x % 3) by omega] at e
      refine ⟨a, b, ?_, A, B⟩
      simp [e0, m1, m2, d3, d24, h3, h5, e]
theorem step_bd {n : Nat} {x y t : Int} (hx : Bd n x) (hy : Bd n y) (h0 : -3 ≤ t) (h1 : t ≤ 3) : Bd (n + 2) (x + t * y) := by
  have ht : t.natAbs ≤ 3 := by omega
  have h2 : (t * y).natAbs ≤ 3 * y.natAbs := by rw [Int.natAbs_mul]; exact Nat.mul_le_mul_right _ ht
  have h3 := Int.natAbs_add_le x (t * y)
  unfold Bd at *
  rw [Nat.pow_succ, Nat.pow_succ]
  omega
theorem strOk_of (s : String) : PyData.strOk (Str.ofString s) = true := by
  unfold PyData.strOk
  rw [Str.ofString_eq_toList]
  simp only [List.all_toArray, List.all_map, List.all_eq_true]
  intro c hc
  have h2 : c.toNat < 1114112 := by
    have e : c.toNat = c.val.toNat := rfl
    rcases c.valid with h | h <;> omega
  simpa using h2
theorem text_len {i : Int} (h : Bd 300 i) : (Str.ofString (toString i)).length ≤ 302 := by
  rw [PySem.ofString_length]
  have := PySem.int_text_length_le (a := i) (k := 301) (by decide) (Nat.lt_succ_of_le h.log')
  omega
def asBo : Res → Option (List PyData)
  | .bo ds => some ds
  | _ => none
@[simp] theorem asBo_b {ds : List PyData} : asBo (.bo ds) = some ds := rfl
theorem sApp_run {ρ : Rh} {k : Nat} {e : Rh → Option Res} : sApp k e ρ = ((ρ[k]?).bind id).bind fun r => (asBo r).bind fun ds => (e ρ).bind fun x => x.shr.bind fun d => if ds.length < LIM then some (.nx (ρ.set k (some (.bo (ds ++ [d]))))) else none := by
  unfold sApp
  cases ρ[k]? with
  | none => rfl
  | some o =>
    cases o with
    | none => rfl
    | some r => cases r <;> rfl
structure Sd (w k : Nat) (d : PyData) : Prop where
  ok : okB d = true
  few : cn d ≤ w
  deep : d.depth ≤ k
theorem Sd.gd {w k : Nat} {d : PyData} (h : Sd w k d) (hw : w ≤ 500) (hk : k ≤ 20) : Gd d := ⟨h.ok, Nat.le_trans h.few hw, Nat.le_trans h.deep hk⟩
theorem Sd.mono {w k w' k' : Nat} {d : PyData} (h : Sd w k d) (hw : w ≤ w') (hk : k ≤ k') : Sd w' k' d := ⟨h.ok, Nat.le_trans h.few hw, Nat.le_trans h.deep hk⟩
theorem sd_int {n : Nat} {i : Int} (h : Bd n i) (hn : n ≤ IB) : Sd 1 0 (.int i) := ⟨by rw [okB_i]; exact decide_eq_true (h.mono hn), by simp, by simp⟩
theorem sd_M {n : Nat} {m : M} (h : m.bd n) (hn : n ≤ IB) : Sd 5 1 m.D := by
  obtain ⟨h1, h2, h3, h4⟩ := h
  refine ⟨?_, by simp [M.D], by simp [M.D]⟩
  simp [M.D, h1.mono hn, h2.mono hn, h3.mono hn, h4.mono hn]
def Al (p : PyData → Prop) (ds : List PyData) : Prop := ∀ d ∈ ds, p d
theorem Al.nil {p : PyData → Prop} : Al p [] := nofun
theorem Al.cons {p : PyData → Prop} {d : PyData} {ds : List PyData} (h : p d) (hs : Al p ds) : Al p (d :: ds) := fun e he => by
  rcases List.mem_cons.mp he with rfl | he
  · exact h
  · exact hs e he
theorem Al.app {p : PyData → Prop} {ds es : List PyData} (h : Al p ds) (hs : Al p es) : Al p (ds ++ es) := fun e he => by
  rcases List.mem_append.mp he with he | he
  · exact h e he
  · exact hs e he
theorem sd_s {x : Str} {w : Nat} (h : PyData.strOk x = true) (hl : x.length ≤ 600) (hw : 1 + x.length ≤ w) (k : Nat) : Sd w k (.str x) := ⟨by rw [okB_s, h, Bool.and_true]; exact decide_eq_true hl, by rw [cn_s]; exact hw, by simp⟩
theorem sd_none (w k : Nat) (h : 1 ≤ w) : Sd w k .none := ⟨by simp, by simpa using h, by simp⟩
theorem sd_bool (b : Bool) (w k : Nat) (h : 1 ≤ w) : Sd w k (.bool b) := ⟨by simp, by simpa using h, by simp⟩
structure Ro (w k : Nat) (ds : List PyData) : Prop where
  ok : okL ds = true
  few : cnL ds ≤ w
  deep : PyData.depthAll ds ≤ k
theorem Ro.nil {w k : Nat} : Ro w k [] := ⟨by simp, by simp, by simp⟩
theorem Ro.cons {w v k : Nat} {d : PyData} {ds : List PyData} (h : Sd w k d) (hs : Ro v k ds) : Ro (w + v) k (d :: ds) := by
  obtain ⟨h1, h2, h3⟩ := h
  obtain ⟨g1, g2, g3⟩ := hs
  exact ⟨by rw [okL_c, h1, g1]; rfl, by rw [cnL_c]; omega, by rw [dpA_c]; omega⟩
theorem Ro.tup {w k : Nat} {ds : List PyData} (h : Ro w k ds) : Sd (w + 1) (k + 1) (.tuple ds) := ⟨by rw [okB_t]; exact h.ok, by rw [cn_t]; have := h.few; omega, by rw [dp_t]; have := h.deep; omega⟩
theorem Ro.lst {w k : Nat} {ds : List PyData} (h : Ro w k ds) : Sd (w + 1) (k + 1) (.list ds) := ⟨by rw [okB_l]; exact h.ok, by rw [cn_l]; have := h.few; omega, by rw [dp_l]; have := h.deep; omega⟩
theorem Ro.app {w v k : Nat} {ds es : List PyData} (h : Ro w k ds) (g : Ro v k es) : Ro (w + v) k (ds ++ es) := by
  obtain ⟨h1, h2, h3⟩ := h
  obtain ⟨g1, g2, g3⟩ := g
  exact ⟨by rw [okL_app, h1, g1]; rfl, by rw [cnL_app]; omega, by rw [dpA_app]; omega⟩
theorem Ro.take {w k : Nat} {ds : List PyData} (n : Nat) (h : Ro w k ds) : Ro w k (ds.take n) :=
  ⟨okL_iff.mpr fun d hd => okL_iff.mp h.ok d (List.mem_of_mem_take hd), Nat.le_trans (cnL_take n ds) h.few, dpA_le fun d hd => Nat.le_trans (dpA_mem (List.mem_of_mem_take hd)) h.deep⟩
theorem Ro.drop {w k : Nat} {ds : List PyData} (n : Nat) (h : Ro w k ds) : Ro w k (ds.drop n) :=
  ⟨okL_iff.mpr fun d hd => okL_iff.mp h.ok d (List.mem_of_mem_drop hd), Nat.le_trans (cnL_drop n ds) h.few, dpA_le fun d hd => Nat.le_trans (dpA_mem (List.mem_of_mem_drop hd)) h.deep⟩
theorem Ro.mono {w k w' k' : Nat} {ds : List PyData} (h : Ro w k ds) (hw : w ≤ w') (hk : k ≤ k') : Ro w' k' ds := ⟨h.ok, Nat.le_trans h.few hw, Nat.le_trans h.deep hk⟩
theorem ro_cy {l : List Int} (h : ∀ i ∈ l, Bd 14 i) : Ro l.length 0 (l.map .int) := by
  refine ⟨?_, by rw [cnL_ints]; exact Nat.le_refl _, by rw [dpA_ints]; exact Nat.le_refl _⟩
  rw [okL_ints, List.all_eq_true]
  exact fun i hi => decide_eq_true ((h i hi).mono (by decide))
theorem Sd.row {w k : Nat} {ds : List PyData} (h : Sd w (k + 1) (.tuple ds)) : Ro w k ds := by
  obtain ⟨h1, h2, h3⟩ := h
  rw [okB_t] at h1
  rw [cn_t] at h2
  rw [dp_t] at h3
  exact ⟨h1, by omega, by omega⟩
@[simp] theorem c_to0 {ds : List PyData} : cutD ds none (some 0) = ds.take 0 := cut_to ds 0
@[simp] theorem c_to1 {ds : List PyData} : cutD ds none (some 1) = ds.take 1 := cut_to ds 1
@[simp] theorem c_to2 {ds : List PyData} : cutD ds none (some 2) = ds.take 2 := cut_to ds 2
@[simp] theorem c_to3 {ds : List PyData} : cutD ds none (some 3) = ds.take 3 := cut_to ds 3
@[simp] theorem c_fr1 {ds : List PyData} : cutD ds (some 1) none = ds.drop 1 := cut_from ds 1
@[simp] theorem c_fr2 {ds : List PyData} : cutD ds (some 2) none = ds.drop 2 := cut_from ds 2
@[simp] theorem c_fr3 {ds : List PyData} : cutD ds (some 3) none = ds.drop 3 := cut_from ds 3
@[simp] theorem c_fr4 {ds : List PyData} : cutD ds (some 4) none = ds.drop 4 := cut_from ds 4
@[simp] theorem c_tom {ds : List PyData} : cutD ds none (some (-1)) = ds.take (ds.length - 1) := cut_front ds
theorem hs_at (m : M) {n : Nat} (hb : m.bd n) {k : Nat} (hk : k < 4) : ∃ x : Int, Bd n x ∧ atI [PyData.int m.a, .int m.b, .int m.c, .int m.d] (k : Int) = some (.int x) := by
  obtain ⟨h1, h2, h3, h4⟩ := hb
  rw [atI_nat']
  match k, hk with
  | 0, _ => exact ⟨_, h1, rfl⟩
  | 1, _ => exact ⟨_, h2, rfl⟩
  | 2, _ => exact ⟨_, h3, rfl⟩
  | 3, _ => exact ⟨_, h4, rfl⟩
theorem ro_M {n : Nat} {m : M} (h : m.bd n) (hn : n ≤ IB) : Ro 4 0 [.int m.a, .int m.b, .int m.c, .int m.d] := by
  obtain ⟨h1, h2, h3, h4⟩ := h
  refine ⟨?_, by simp, by simp⟩
  simp [h1.mono hn, h2.mono hn, h3.mono hn, h4.mono hn]
theorem one_loop {hs : List PyData} (q0 q2 q3 : Option Res) {k : Nat} (hq2 : q2 = some (.sh (.int k))) (hh : Ro 4 0 hs) (hl : hs.length = 4) (items : List PyData) (hi : Al (Sd 303 1) items) (hn : items.length ≤ 20) (ps : List PyData) (hp : Al Gd ps) (hpl : ps.length ≤ 50) :
    ∃ ps', forD (gNm 5) (sFo [5] (sApp 4 (eTup (aCons (eC (.str "one")) (aCons (eBin addR (eBin addR (eSl (eVar 1) oNo (oIs (eVar 2))) (eTup (aCons (eVar 5) aNil))) (eSl (eVar 1) (oIs (eBin addR (eVar 2) (eC (.int 1)))) oNo)) aNil))))) items
      [q0, some (.sh (.tuple hs)), q2, q3, some (.bo ps), none, none, none, none, none, none] = some (.nx [q0, some (.sh (.tuple hs)), q2, q3, some (.bo ps'), none, none, none, none, none, none]) ∧ Al Gd ps' ∧ ps'.length = ps.length + items.length := by
  subst hq2
  have hto : cutD hs none (some (k : Int)) = hs.take k := cut_to _ k
  have hfr : cutD hs (some ((k : Int) + 1)) none = hs.drop (k + 1) := cut_from _ (k + 1)
  obtain ⟨ρ', e, ps', rfl, h1, h2⟩ := for_inv (g := gNm 5) (b := (sFo [5] (sApp 4 (eTup (aCons (eC (.str "one")) (aCons (eBin addR (eBin addR (eSl (eVar 1) oNo (oIs (eVar 2))) (eTup (aCons (eVar 5) aNil))) (eSl (eVar 1) (oIs (eBin addR (eVar 2) (eC (.int 1)))) oNo)) aNil)))))) (fun j ρ => ∃ ps', ρ = [q0, some (.sh (.tuple hs)), some (.sh (.int k)), q3, some (.bo ps'), none, none, none, none, none, none] ∧ Al Gd ps' ∧ ps'.length = ps.length + j) items 0 [q0, some (.sh (.tuple hs)), some (.sh (.int k)), q3, some (.bo ps), none, none, none, none, none, none]
    (fun j d ρ hj hI => by
      obtain ⟨ps', rfl, i1, i2⟩ := hI
      have hd := hi d (List.mem_of_getElem? hj)
      have hjl := (List.getElem?_eq_some_iff.mp hj).1
      have c1 : ps'.length < 1000000 := by omega
      have c2 : (hs.take k).length + 1 ≤ 1000000 := by rw [List.length_take]; omega
      have c3 : (hs.take k).length + 1 + (hs.drop (k + 1)).length ≤ 1000000 := by rw [List.length_take, List.length_drop]; omega
      have g : Gd (.tuple [.str "one", .tuple (hs.take k ++ [d] ++ hs.drop (k + 1))]) := by
        have r1 : Ro (4 + (303 + 0) + 4) 1 (hs.take k ++ [d] ++ hs.drop (k + 1)) := Ro.app (Ro.app ((hh.take k).mono (Nat.le_refl _) (by decide)) (Ro.cons hd Ro.nil)) ((hh.drop (k + 1)).mono (Nat.le_refl _) (by decide))
        exact (Ro.cons (sd_s (x := "one") (w := 10) (strOk_of _) (by rw [show ("one" : Str).length = 3 from rfl]; decide) (by rw [show ("one" : Str).length = 3 from rfl]; decide) 2) (Ro.cons r1.tup Ro.nil (v := 0))).tup.gd (by decide) (by decide)
      refine ⟨_, ?_, ps' ++ [.tuple [.str "one", .tuple (hs.take k ++ [d] ++ hs.drop (k + 1))]], rfl, i1.app (Al.cons g Al.nil), by rw [List.length_append]; simp; omega⟩
      rw [List.length_take] at c2
      rw [List.length_take, List.length_drop] at c3
      simp [sApp_run, hto, hfr, c1, c2, c3]) ⟨ps, rfl, hp, rfl⟩
  exact ⟨ps', e, h1, by omega⟩
theorem inv_by {g x : M} (hd : g.det = 1) : g.inv * M.by_ g x = x * g.inv := by
  unfold M.by_
  rw [← M.mul_assoc, ← M.mul_assoc, M.inv_mul hd, M.one_mul]
theorem mt_some {a b : List Int} {j : Nat} (h : mt a b = some j) : j < (a.length + 1) / 2 ∧ rot a (2 * j) = b := by
  unfold mt at h
  have h1 := List.find?_some h
  have h2 := List.mem_of_find?_eq_some h
  exact ⟨List.mem_range.mp h2, of_decide_eq_true h1⟩
theorem while_inv {k : Rh → Option Bool} {b : Rh → Option Out} (I : Nat → Rh → Prop) (Q : Rh → Prop) (h : ∀ n ρ, I n ρ → (k ρ = some false ∧ Q ρ) ∨ (k ρ = some true ∧ ∃ ρ', b ρ = some (.nx ρ') ∧ ∃ m, m < n ∧ I m ρ')) (n : Nat) (ρ : Rh) (hI : I n ρ) : ∃ ρ', sWhile k b ρ = some (.nx ρ') ∧ Q ρ' := by
  have : ∀ n, ∀ ρ, I n ρ → ∃ ρ' f, whileN k b f ρ = some (.nx ρ') ∧ Q ρ' := by
    intro n
    induction n using Nat.strongRecOn with
    | _ n ih =>
      intro ρ hI
      rcases h n ρ hI with ⟨h1, h2⟩ | ⟨h1, ρ', h2, m, hm, h3⟩
      · exact ⟨ρ, 1, by rw [whileN, h1]; rfl, h2⟩
      · obtain ⟨ρ'', f, e, q⟩ := ih m hm ρ' h3
        refine ⟨ρ'', f + 1, ?_, q⟩
        rw [whileN, h1, Option.bind_some, if_pos rfl, h2]
        exact e
  obtain ⟨ρ', f, e, q⟩ := this n ρ hI
  exact ⟨ρ', sWhile_of e, q⟩
theorem near_pos {f s : Int} (h : 0 < s) : 2 * (f - (2 * f + s) / (2 * s) * s).natAbs ≤ s.natAbs := by
  have h1 := Int.mul_ediv_add_emod (2 * f + s) (2 * s)
  have h2 := Int.emod_nonneg (2 * f + s) (show 2 * s ≠ 0 by omega)
  have h3 := Int.emod_lt_of_pos (2 * f + s) (show 0 < 2 * s by omega)
  generalize (2 * f + s) / (2 * s) = k at *
  generalize (2 * f + s) % (2 * s) = r at *
  have h4 : 2 * s * k = 2 * (k * s) := by rw [Int.mul_assoc, Int.mul_comm s k]
  rw [h4] at h1
  generalize k * s = p at *
  omega
theorem sq_abs (x : Int) : x * x = ((x.natAbs * x.natAbs : Nat) : Int) := (Int.natAbs_mul_self' x ▸ by simp)
theorem by_mul (x y m : M) : M.by_ (x * y) m = M.by_ x (M.by_ y m) := by
  unfold M.by_
  rw [M.inv_mul_rev]
  simp only [M.mul_assoc]
end Lk77
set_option maxRecDepth 100000
set_option maxHeartbeats 1000000
/-! So: sorted lists of tuples of ints -/
namespace F3
open PySem PySem.Spec PySem.W PyProof.Rows L2
def tI (ns : List Int) : PyData := .tuple (ns.map .int)
theorem lt_tI (xs ys : List Int) : dataLt (tI xs) (tI ys) = decide (xs < ys) := by
  unfold tI
  rw [dataLt_tuple]
  exact dataLt_ints xs ys
theorem le_tI (xs ys : List Int) : dataLe false id (tI xs) (tI ys) = !decide (ys < xs) := by
  rw [dataLe_eq]
  show (!dataLt (tI ys) (tI xs)) = _
  rw [lt_tI]
theorem alike_tI (xs ys : List Int) : alike (tI xs) (tI ys) = true := by
  unfold tI
  simp only [alike]
  exact alike_ints xs ys
theorem shape_tI {l : List (List Int)} (h : ∀ x ∈ l, x ≠ []) : oneShape (l.map tI) = true := by
  unfold oneShape
  rw [Bool.and_eq_true, Bool.and_eq_true]
  refine ⟨⟨List.all_eq_true.mpr fun d hd => List.all_eq_true.mpr fun e he => ?_, Bool.or_eq_true_iff.mpr (.inl (List.all_eq_true.mpr fun d hd => ?_))⟩, List.all_eq_true.mpr fun d hd => ?_⟩
  · obtain ⟨x, _, rfl⟩ := List.mem_map.mp hd
    obtain ⟨y, _, rfl⟩ := List.mem_map.mp he
    exact alike_tI x y
  · obtain ⟨x, hx, rfl⟩ := List.mem_map.mp hd
    cases x with
    | nil => exact absurd rfl (h _ hx)
    | cons a r => rfl
  · obtain ⟨x, _, rfl⟩ := List.mem_map.mp hd
    simp [tI, PyData.depth, depth_ints]
/-- sorted, by the lists of ints -/
def sI (l : List (List Int)) : List (List Int) := l.mergeSort fun x y => !decide (y < x)
theorem srt_tI (l : List (List Int)) : srt (l.map tI) = (sI l).map tI := by
  unfold srt sI
  rw [List.map_mergeSort]
  intro a _ b _
  exact (le_tI a b).symm
theorem sI_perm (l : List (List Int)) : (sI l).Perm l := List.mergeSort_perm _ _
theorem le_tr (x y z : List Int) : (!decide (y < x)) = true → (!decide (z < y)) = true → (!decide (z < x)) = true := by
  simp only [Bool.not_eq_true', decide_eq_false_iff_not]
  intro h1 h2 h3
  exact h1 (List.lt_of_le_of_lt (List.not_lt.mp h2) h3)
theorem le_tot (x y : List Int) : ((!decide (y < x)) || (!decide (x < y))) = true := by
  by_cases h : y < x
  · have : ¬ x < y := fun z => List.lt_irrefl _ (List.lt_trans h z)
    simp [this]
  · simp [h]
theorem sI_sorted (l : List (List Int)) : (sI l).Pairwise fun x y => (!decide (y < x)) = true := List.pairwise_mergeSort (fun a b c => le_tr a b c) (fun a b => le_tot a b) l
/-- the sorted list is the only one -/
theorem sI_uniq : ∀ {l k : List (List Int)}, l.Perm k → l.Pairwise (fun x y => (!decide (y < x)) = true) → k.Pairwise (fun x y => (!decide (y < x)) = true) → l = k := by
  intro l k h h1 h2
  refine List.Perm.eq_of_pairwise (le := fun x y => (!decide (y < x)) = true) (fun a b _ _ ha hb => ?_) h1 h2 h
  simp only [Bool.not_eq_true', decide_eq_false_iff_not] at ha hb
  exact List.le_antisymm (List.not_lt.mp ha) (List.not_lt.mp hb)
theorem sI_eq {l k : List (List Int)} (h : k.Perm l) (hs : k.Pairwise fun x y => (!decide (y < x)) = true) : sI l = k :=
  sI_uniq ((sI_perm l).trans h.symm) (sI_sorted l) hs
/-! ### of turns and plain moves -/
def k4 (m : M) : List Int := [m.a, m.b, m.c, m.d]
def k6 (m : M) : List Int := [m.a, m.b, m.c, m.d, 0, 0]
def M.D6 (m : M) : PyData := .tuple [.int m.a, .int m.b, .int m.c, .int m.d, .int 0, .int 0]
theorem k4_D (m : M) : tI (k4 m) = m.D := rfl
theorem k6_D (m : M) : tI (k6 m) = m.D6 := rfl
theorem k46 (x y : M) : k6 x < k6 y ↔ k4 x < k4 y := by
  simp only [k4, k6, List.cons_lt_cons_iff, Int.lt_irrefl, List.not_lt_nil, and_false, or_false, and_self]
def sM (S : List M) : List M := S.mergeSort fun x y => !decide (k4 y < k4 x)
theorem sM_perm (S : List M) : (sM S).Perm S := List.mergeSort_perm _ _
theorem sM_k4 (S : List M) : sI (S.map k4) = (sM S).map k4 := by
  unfold sI sM
  rw [List.map_mergeSort]
  intro a _ b _
  rfl
theorem sM_k6 (S : List M) : sI (S.map k6) = (sM S).map k6 := by
  unfold sI sM
  rw [List.map_mergeSort]
  intro a _ b _
  rw [decide_eq_decide.mpr (k46 b a)]
theorem srt_D (S : List M) : srt (S.map M.D) = (sM S).map M.D := by
  have h := srt_tI (S.map k4)
  rw [sM_k4, List.map_map, List.map_map] at h
  exact h
theorem srt_D6 (S : List M) : srt (S.map M.D6) = (sM S).map M.D6 := by
  have h := srt_tI (S.map k6)
  rw [sM_k6, List.map_map, List.map_map] at h
  exact h
theorem shape_D (S : List M) : oneShape (S.map M.D) = true := by
  have h := shape_tI (l := S.map k4) (fun x hx => by obtain ⟨m, _, rfl⟩ := List.mem_map.mp hx; simp [k4])
  rw [List.map_map] at h
  exact h
theorem shape_D6 (S : List M) : oneShape (S.map M.D6) = true := by
  have h := shape_tI (l := S.map k6) (fun x hx => by obtain ⟨m, _, rfl⟩ := List.mem_map.mp hx; simp [k6])
  rw [List.map_map] at h
  exact h
theorem k4_inj {x y : M} (h : k4 x = k4 y) : x = y := by
  simp only [k4, List.cons.injEq, and_true] at h
  exact M.ext' h.1 h.2.1 h.2.2.1 h.2.2.2
/-- two lists of the same turns are sorted alike -/
theorem sM_eq {S T : List M} (h : S.Perm T) : sM S = sM T := by
  have e : sI (S.map k4) = sI (T.map k4) := sI_eq ((sI_perm _).trans (h.map k4).symm) (sI_sorted _)
  rw [sM_k4, sM_k4] at e
  exact List.map_inj_right (fun x y h => k4_inj h) |>.mp e
end F3
set_option maxRecDepth 100000
set_option maxHeartbeats 1000000
namespace Lk77
open PySem L2 F3 Gr
theorem mul0 {n : Nat} {i : Int} (h : Bd n i) (hn : n < 900000) : mulOk i 0 := mulOk_of h (show Bd 3 0 by decide) (by omega)
theorem e_sent_vector {n m : Nat} {x : M} {u v : Int} (hx : x.bd n) (hu : Bd m u) (hv : Bd m v) (h : n + m < 900000) : f_sent_vector [x.D6, .tuple [.int u, .int v]] = some (.sh (.tuple [.int (x.a * u + x.b * v), .int (x.c * u + x.d * v)])) := by
  obtain ⟨h1, h2, h3, h4⟩ := hx
  have m1 := mulOk_of h1 hu (by omega)
  have m2 := mulOk_of h2 hv (by omega)
  have m3 := mulOk_of h3 hu (by omega)
  have m4 := mulOk_of h4 hv (by omega)
  simp [f_sent_vector, b_sent_vector, M.D6, m1, m2, m3, m4]
theorem e_sent0 {n : Nat} {x : M} (hx : x.bd n) (h : n < 900000) : f_sent [x.D6, .tuple [.int 0, .int 0]] = some (.sh (.tuple [.int 0, .int 0])) := by
  obtain ⟨h1, h2, h3, h4⟩ := hx
  have m1 := mul0 h1 h
  have m2 := mul0 h2 h
  have m3 := mul0 h3 h
  have m4 := mul0 h4 h
  simp [f_sent, b_sent, M.D6, m1, m2, m3, m4]
theorem e_after {n m : Nat} {x y : M} (hx : x.bd n) (hy : y.bd m) (h : n + m < 900000) : f_after [x.D6, y.D6] = some (.sh (y * x).D6) := by
  have e1 := e_sent_vector hy hx.1 hx.2.2.1 (by omega)
  have e2 := e_sent_vector hy hx.2.1 hx.2.2.2 (by omega)
  have e3 := e_sent0 hy (by omega)
  have yd : y.D6 = .tuple [.int y.a, .int y.b, .int y.c, .int y.d, .int 0, .int 0] := rfl
  have xd : x.D6 = .tuple [.int x.a, .int x.b, .int x.c, .int x.d, .int 0, .int 0] := rfl
  rw [xd]
  simp [f_after, b_after, e1, e2, e3]
  rfl
theorem e_strength {n : Nat} {x : M} (hx : x.bd n) (h : n + n < 900000) : f_strength [x.D6] = some (.sh (.int x.det)) := by
  obtain ⟨h1, h2, h3, h4⟩ := hx
  have m1 := mulOk_of h1 h4 (by omega)
  have m2 := mulOk_of h2 h3 (by omega)
  simp [f_strength, b_strength, M.D6, m1, m2, M.det]
theorem vni_bd {n : Nat} {x : M} (hx : x.bd n) (hd : x.det = 1 ∨ x.det = -1) : (vni x).bd n := by
  obtain ⟨h1, h2, h3, h4⟩ := hx
  unfold vni
  rcases hd with h | h <;> rw [h] <;> simp only [Int.one_mul, Int.neg_mul, Int.neg_neg]
  · exact ⟨h4, h2.neg, h3.neg, h1⟩
  · exact ⟨h4.neg, h2, h3, h1.neg⟩
theorem e_undoing {n : Nat} {x : M} (hx : x.bd n) (hd : x.det = 1 ∨ x.det = -1) (h : n + n < 900000) : f_undoing [x.D6] = some (.sh (vni x).D6) := by
  have es := e_strength hx h
  have bv := vni_bd hx hd
  have e3 := e_sent_vector (u := 0) (v := 0) (m := 3) bv (by decide) (by decide) (by omega)
  obtain ⟨h1, h2, h3, h4⟩ := hx
  obtain ⟨t, ht⟩ : ∃ t, t = x.det := ⟨_, rfl⟩
  have bt : Bd 3 t := by rcases hd with h | h <;> rw [ht, h] <;> decide
  rw [← ht] at es
  have m1 := mulOk_of bt h4 (by omega)
  have m2 := mulOk_of bt.neg h2 (by omega)
  have m3 := mulOk_of bt.neg h3 (by omega)
  have m4 := mulOk_of bt h1 (by omega)
  have vd : (vni x).D6 = .tuple [.int (t * x.d), .int (-t * x.b), .int (-t * x.c), .int (t * x.a), .int 0, .int 0] := by rw [ht]; rfl
  rw [vd] at e3 ⊢
  have xd : x.D6 = .tuple [.int x.a, .int x.b, .int x.c, .int x.d, .int 0, .int 0] := rfl
  rw [xd] at es ⊢
  simp [f_undoing, b_undoing, es, m1, m2, m3, m4]
  simp at e3
  simp [e3]
theorem vni_one {x : M} (h : x.det = 1) : vni x = x.inv := by
  unfold vni M.inv
  rw [h]
  ext <;> simp
theorem e_plain {n : Nat} {x : M} : f__law_plain [x.D] = some (.sh x.D6) := by
  simp [f__law_plain, b__law_plain, M.D, M.D6]
theorem e_is_plain (x : M) : f_is_plain [x.D6] = some (.sh (.bool true)) := by
  simp [f_is_plain, b_is_plain, M.D6]
/-! ### what keeps the square or the hexagon -/
theorem abs1 (a b : Int) : ((if a < 0 then -a else a) + (if b < 0 then -b else b) == 1) = decide (a.natAbs + b.natAbs = 1) := by
  rw [Bool.eq_iff_iff, beq_iff_eq, decide_eq_true_eq]
  split <;> split <;> omega
theorem e_keeps_square (x : M) : f_keeps_square [x.D6] = some (.sh (.bool (kS x))) := by
  have h1 : ((if x.a < 0 then -x.a else x.a) + (if x.b < 0 then -x.b else x.b) = 1) ↔ x.a.natAbs + x.b.natAbs = 1 := by
    split <;> split <;> omega
  have h2 := abs1 x.c x.d
  simp only [f_keeps_square, b_keeps_square, M.D6, kS]
  by_cases hb : x.a.natAbs + x.b.natAbs = 1
  · have := h1.mpr hb
    simp [this, h2, hb]
  · have : ¬ _ := fun z => hb (h1.mp z)
    simp [this, hb]
theorem hexs_D : c_HEXAGON = .tuple (hexs.map fun p => .tuple [.int p.1, .int p.2]) := rfl
theorem in_hex (x y : Int) : inR false (.sh (.tuple [.int x, .int y])) (.sh c_HEXAGON) = some (.sh (.bool (hexs.contains (x, y)))) := by
  rw [hexs_D]
  unfold inR
  have hs : SeqAt.shaped (.list (hexs.map fun p => .tuple [.int p.1, .int p.2])) = true := by
    simp [hexs, PyData.canLayAll0, PyData.canLay0, PyData.depthAll, PyData.depth]
  have hs2 : SeqAt.shaped (.tuple [.int x, .int y]) = true := by
    simp [PyData.canLayAll0, PyData.canLay0, PyData.depthAll, PyData.depth]
  simp only [seq_t, Res.dat, hs, hs2, and_self, if_true, Bool.false_eq_true, if_false]
  congr 3
  have : ∀ l : List (Int × Int), (l.map fun p => PyData.tuple [.int p.1, .int p.2]).any (fun z => PyData.eqv z (.tuple [.int x, .int y])) = l.contains (x, y) := by
    intro l
    induction l with
    | nil => rfl
    | cons p l ih =>
      rw [List.map_cons, List.any_cons, ih, List.contains_cons]
      congr 1
      obtain ⟨u, v⟩ := p
      simp only [PyData.eqv, PyData.eqvAll, Bool.and_true]
      rw [Bool.eq_iff_iff]
      simp
      omega
  exact this hexs
theorem e_keeps_hexagon (x : M) : f_keeps_hexagon [x.D6] = some (.sh (.bool (kH x))) := by
  have h1 := in_hex x.a x.c
  have h2 := in_hex x.b x.d
  have h3 := in_hex (x.a + x.b) (x.c + x.d)
  have hc : cutD [PyData.int x.a, .int x.b, .int x.c, .int x.d, .int 0, .int 0] none (some 4) = [PyData.int x.a, .int x.b, .int x.c, .int x.d] := cut_to _ 4
  simp only [f_keeps_hexagon, b_keeps_hexagon, M.D6, kH]
  cases e1 : hexs.contains (x.a, x.c) <;> cases e2 : hexs.contains (x.b, x.d) <;> rw [e1] at h1 <;> rw [e2] at h2 <;> simp [hc, h1, h2, h3]
end Lk77
set_option maxRecDepth 100000
set_option maxHeartbeats 1000000
/-! Sq: the corners of the square and of the hexagon, sorted -/
namespace F3
open PySem PySem.Spec PySem.W PyProof.Rows L2 Gr
def P2 (p : Int × Int) : PyData := .tuple [.int p.1, .int p.2]
def im (m : M) (p : Int × Int) : Int × Int := (m.a * p.1 + m.b * p.2, m.c * p.1 + m.d * p.2)
def cS : List (Int × Int) := [(-1, -1), (-1, 1), (1, -1), (1, 1)]
def cH : List (Int × Int) := [(-1, -1), (-1, 0), (0, -1), (0, 1), (1, 0), (1, 1)]
def l2 (p : Int × Int) : List Int := [p.1, p.2]
theorem P2_eq (cs : List (Int × Int)) : cs.map P2 = (cs.map l2).map tI := by
  rw [List.map_map]
  rfl
theorem l2_inj {p q : Int × Int} (h : l2 p = l2 q) : p = q := by
  simp only [l2, List.cons.injEq, and_true] at h
  exact Prod.ext h.1 h.2
theorem srt_P2 (cs : List (Int × Int)) : srt (cs.map P2) = (sI (cs.map l2)).map tI := by rw [P2_eq, srt_tI]
theorem shape_P2 (cs : List (Int × Int)) : oneShape (cs.map P2) = true := by
  rw [P2_eq]
  exact shape_tI fun x hx => by obtain ⟨m, _, rfl⟩ := List.mem_map.mp hx; simp [l2]
theorem eqv_tI (x y : List Int) : PyData.eqv (tI x) (tI y) = decide (x = y) := by
  have : PyData.eqv (.list (x.map .int)) (.list (y.map .int)) = decide (x = y) := by
    have h := eqD_listInts x y
    unfold eqD at h
    simp at h
    exact h.2
  rw [← this]
  simp only [tI, PyData.eqv]
theorem eqv_tIs (xs ys : List (List Int)) : PyData.eqv (.list (xs.map tI)) (.list (ys.map tI)) = decide (xs = ys) := by
  simp only [PyData.eqv]
  induction xs generalizing ys with
  | nil => cases ys <;> simp [PyData.eqvAll]
  | cons x xs ih =>
    cases ys with
    | nil => simp [PyData.eqvAll]
    | cons y ys =>
      rw [List.map_cons, List.map_cons, PyData.eqvAll, ih, eqv_tI, Bool.eq_iff_iff]
      simp
theorem sp_tIs (xs : List (List Int)) : SeqAt.shaped (.list (xs.map tI)) = true := by
  have h1 : PyData.canLayAll0 (xs.map tI) = true := by
    induction xs with
    | nil => simp [PyData.canLayAll0]
    | cons x xs ih =>
      rw [List.map_cons, PyData.canLayAll0, ih]
      have := sp_tupInts x
      simp only [sp_tup, Bool.and_eq_true] at this
      simp only [tI, PyData.canLay0, this.1, Bool.and_self]
  have h2 : PyData.depthAll (xs.map tI) ≤ 1 := by
    induction xs with
    | nil => simp [PyData.depthAll]
    | cons x xs ih =>
      rw [List.map_cons]
      have : (tI x).depth = 1 := by simp [tI, PyData.depth, depth_ints]
      simp only [PyData.canLayAll0, List.map_cons, Bool.and_eq_true] at h1
      have := ih h1.2
      simp only [PyData.depthAll]
      omega
  rw [sp_lst, h1, Bool.true_and]
  exact decide_eq_true (by omega)
theorem eqR_P2 (cs ds : List (Int × Int)) : eqD (.list (srt (cs.map P2))) (.list (ds.map P2)) = some (decide (sI (cs.map l2) = ds.map l2)) := by
  unfold eqD
  rw [srt_P2, P2_eq]
  simp only [sp_tIs, and_self, if_true, eqv_tIs]
theorem s_ne : ¬ ((Str.ofString "square") = (Str.ofString "hexagon")) := by decide
theorem im_mem {m : M} {cs : List (Int × Int)} (h : sI ((cs.map (im m)).map l2) = cs.map l2) {p : Int × Int} (hp : p ∈ cs) : im m p ∈ cs := by
  have h1 : l2 (im m p) ∈ (cs.map (im m)).map l2 := List.mem_map.mpr ⟨_, List.mem_map.mpr ⟨p, hp, rfl⟩, rfl⟩
  have h2 := (sI_perm _).mem_iff.mpr h1
  rw [h] at h2
  obtain ⟨q, hq, e⟩ := List.mem_map.mp h2
  rw [← l2_inj e]
  exact hq
theorem keepsS_iff {m : M} (hd : m.det = 1 ∨ m.det = -1) : decide (sI ((cS.map (im m)).map l2) = cS.map l2) = kS m := by
  rw [Bool.eq_iff_iff, decide_eq_true_eq]
  unfold kS
  rw [Bool.and_eq_true, decide_eq_true_eq, decide_eq_true_eq]
  constructor
  · intro h
    have h1 := im_mem h (p := (1, 1)) (by decide)
    have h2 := im_mem h (p := (1, -1)) (by decide)
    simp only [im, cS, List.mem_cons, Prod.mk.injEq, List.not_mem_nil, or_false] at h1 h2
    omega
  · obtain ⟨a, b, c, d⟩ := m
    rintro ⟨h1, h2⟩
    simp only at h1 h2
    have ra : a = -1 ∨ a = 0 ∨ a = 1 := by omega
    have rb : b = -1 ∨ b = 0 ∨ b = 1 := by omega
    have rc : c = -1 ∨ c = 0 ∨ c = 1 := by omega
    have rd : d = -1 ∨ d = 0 ∨ d = 1 := by omega
    rcases ra with rfl | rfl | rfl <;> rcases rb with rfl | rfl | rfl <;> first
      | exact absurd h1 (by decide)
      | (rcases rc with rfl | rfl | rfl <;> rcases rd with rfl | rfl | rfl <;> first
          | exact absurd h2 (by decide)
          | exact absurd hd (by decide)
          | exact sI_eq (by decide) (by decide))
theorem keepsH_iff {m : M} (hd : m.det = 1 ∨ m.det = -1) : decide (sI ((cH.map (im m)).map l2) = cH.map l2) = kH m := by
  rw [Bool.eq_iff_iff, decide_eq_true_eq]
  unfold kH
  rw [Bool.and_eq_true, Bool.and_eq_true, List.contains_iff_mem, List.contains_iff_mem, List.contains_iff_mem]
  constructor
  · intro h
    have h1 := im_mem h (p := (1, 0)) (by decide)
    have h2 := im_mem h (p := (0, 1)) (by decide)
    have h3 := im_mem h (p := (1, 1)) (by decide)
    have up : ∀ p ∈ cH, p ∈ hexs := by decide
    have e1 : im m (1, 0) = (m.a, m.c) := by simp [im]
    have e2 : im m (0, 1) = (m.b, m.d) := by simp [im]
    have e3 : im m (1, 1) = (m.a + m.b, m.c + m.d) := by simp [im]
    rw [e1] at h1
    rw [e2] at h2
    rw [e3] at h3
    exact ⟨⟨up _ h1, up _ h2⟩, up _ h3⟩
  · obtain ⟨a, b, c, d⟩ := m
    rintro ⟨⟨h1, h2⟩, h3⟩
    simp only [hexs, List.mem_cons, Prod.mk.injEq, List.not_mem_nil, or_false] at h1 h2
    rcases h1 with ⟨rfl, rfl⟩ | ⟨rfl, rfl⟩ | ⟨rfl, rfl⟩ | ⟨rfl, rfl⟩ | ⟨rfl, rfl⟩ | ⟨rfl, rfl⟩ <;> rcases h2 with ⟨rfl, rfl⟩ | ⟨rfl, rfl⟩ | ⟨rfl, rfl⟩ | ⟨rfl, rfl⟩ | ⟨rfl, rfl⟩ | ⟨rfl, rfl⟩ <;> first
      | exact absurd hd (by decide)
      | exact absurd h3 (by decide)
      | exact sI_eq (by decide) (by decide)
end F3
set_option maxRecDepth 100000
set_option maxHeartbeats 1000000
namespace Lk77
open PySem L2 F3 Gr
/-! ### the law's way to see what keeps the square or the hexagon -/
theorem lc_img {n : Nat} {m : M} (hm : m.bd n) (hn : n < 900000) (q0 q1 q6 : Option Res) : ∀ cs : List (Int × Int), (∀ p ∈ cs, Bd 3 p.1 ∧ Bd 3 p.2) →
    lcD (gTp (gsC (gNm 7) (gsC (gNm 8) gsN))) tYesD (eTup (aCons (eBin addR (eBin mulI (eVar 2) (eVar 7)) (eBin mulI (eVar 3) (eVar 8))) (aCons (eBin addR (eBin mulI (eVar 4) (eVar 7)) (eBin mulI (eVar 5) (eVar 8))) aNil))) [q0, q1, some (.sh (.int m.a)), some (.sh (.int m.b)), some (.sh (.int m.c)), some (.sh (.int m.d)), q6, none, none] (cs.map P2) = some ((cs.map (im m)).map P2)
  | [], _ => rfl
  | (u, v) :: cs, h => by
    obtain ⟨hu, hv⟩ := h (u, v) List.mem_cons_self
    have ih := lc_img hm hn q0 q1 q6 cs fun p hp => h p (List.mem_cons_of_mem _ hp)
    obtain ⟨h1, h2, h3, h4⟩ := hm
    have m1 := mulOk_of h1 hu (by omega)
    have m2 := mulOk_of h2 hv (by omega)
    have m3 := mulOk_of h3 hu (by omega)
    have m4 := mulOk_of h4 hv (by omega)
    rw [List.map_cons, List.map_cons, List.map_cons, lcD]
    simp only at m1 m2 m3 m4
    have e : P2 (u, v) = .tuple [.int u, .int v] := rfl
    rw [e]
    simp [m1, m2, m3, m4, ih]
    rfl
theorem cS_bd : ∀ p ∈ cS, Bd 3 p.1 ∧ Bd 3 p.2 := by decide
theorem cH_bd : ∀ p ∈ cH, Bd 3 p.1 ∧ Bd 3 p.2 := by decide
def sqr : Str := "square"
def hxg : Str := "hexagon"
theorem e_keepsS {n : Nat} {m : M} (hm : m.bd n) (hn : n < 900000) : f__law_keeps [.str "square", m.D] = some (.sh (.bool (decide (sI ((cS.map (im m)).map l2) = cS.map l2)))) := by
  have e := lc_img hm hn (some (.sh (.str "square"))) (some (.sh m.D)) (some (.sh (.list (cS.map P2)))) cS cS_bd
  have s := shape_P2 (cS.map (im m))
  have r := eqR_P2 (cS.map (im m)) cS
  have c : cS.map P2 = [.tuple [.int (-1), .int (-1)], .tuple [.int (-1), .int 1], .tuple [.int 1, .int (-1)], .tuple [.int 1, .int 1]] := rfl
  have md : m.D = .tuple [.int m.a, .int m.b, .int m.c, .int m.d] := rfl
  rw [c] at e r
  rw [md] at e ⊢
  simp only [List.map_map] at e s r ⊢
  simp [f__law_keeps, b__law_keeps, wipeD, frz1, e, sortR, s, r, s_ne]
theorem e_keepsH {n : Nat} {m : M} (hm : m.bd n) (hn : n < 900000) : f__law_keeps [.str "hexagon", m.D] = some (.sh (.bool (decide (sI ((cH.map (im m)).map l2) = cH.map l2)))) := by
  have e := lc_img hm hn (some (.sh (.str "hexagon"))) (some (.sh m.D)) (some (.sh (.list (cH.map P2)))) cH cH_bd
  have s := shape_P2 (cH.map (im m))
  have r := eqR_P2 (cH.map (im m)) cH
  have c : cH.map P2 = [.tuple [.int (-1), .int (-1)], .tuple [.int (-1), .int 0], .tuple [.int 0, .int (-1)], .tuple [.int 0, .int 1], .tuple [.int 1, .int 0], .tuple [.int 1, .int 1]] := rfl
  have md : m.D = .tuple [.int m.a, .int m.b, .int m.c, .int m.d] := rfl
  rw [c] at e r
  rw [md] at e ⊢
  simp only [List.map_map] at e s r ⊢
  simp [f__law_keeps, b__law_keeps, wipeD, frz1, e, sortR, s, r, s_ne]
end Lk77
set_option maxRecDepth 100000
set_option maxHeartbeats 1000000
namespace Lk77
open PySem L2 F3 Gr
theorem for_allM {g : PyData → Rh → Option Rh} {b : Rh → Option Out} {p : M → Bool} {enc : M → PyData} {ρ : Rh} : ∀ S : List M, (∀ x ∈ S, ((g (enc x) ρ).bind b) = some (if p x = true then .nx ρ else .rt (.sh (.bool false)))) → forD g b (S.map enc) ρ = some (if S.all p = true then .nx ρ else .rt (.sh (.bool false)))
  | [], _ => rfl
  | x :: S, h => by
    obtain ⟨ρ1, e1, e2⟩ := bind_some (h x List.mem_cons_self)
    have ih := for_allM S fun y hy => h y (List.mem_cons_of_mem _ hy)
    rw [List.map_cons, forD, e1, Option.bind_some, e2, Option.bind_some]
    cases hp : p x with
    | true => simp only [hp, List.all_cons, Bool.true_and]; exact ih
    | false => simp [hp]
theorem by_dt {h x : M} (hd : h.det = 1) (hx : x.det = 1 ∨ x.det = -1) : (M.by_ h x).det = 1 ∨ (M.by_ h x).det = -1 := by rw [M.by_det hd]; exact hx
/-- a kind's name and what it keeps -/
structure Kn (kd : Str) (k : M → Bool) : Prop where
  law : ∀ {n : Nat} {m : M}, m.bd n → n < 900000 → (m.det = 1 ∨ m.det = -1) → f__law_keeps [.str kd, m.D] = some (.sh (.bool (k m)))
  own : (kd = "square" ∧ k = kS) ∨ (kd = "hexagon" ∧ k = kH)
theorem kn_S : Kn "square" kS := ⟨fun hm hn hd => by rw [e_keepsS hm hn, keepsS_iff hd], Or.inl ⟨rfl, rfl⟩⟩
theorem kn_H : Kn "hexagon" kH := ⟨fun hm hn hd => by rw [e_keepsH hm hn, keepsH_iff hd], Or.inr ⟨rfl, rfl⟩⟩
theorem e_law_fits {kd : Str} {k : M → Bool} (K : Kn kd k) {n m : Nat} {S : List M} {h : M} (hS : ∀ x ∈ S, x.bd n ∧ (x.det = 1 ∨ x.det = -1)) (hh : h.bd m) (hd : h.det = 1) (hn : n + m + m < 800000) :
    f__law_square_fits [.str kd, .list (S.map M.D), h.D] = some (.sh (.bool (S.all fun x => k (M.by_ h x)))) := by
  have hfd : h.inv.D = .tuple [.int h.d, .int (-h.b), .int (-h.c), .int h.a] := rfl
  have hl := for_allM (g := gNm 8) (b := l__law_square_fits_1) (p := fun x => k (M.by_ h x)) (enc := M.D) (ρ := [some (.sh (.str kd)), some (.sh (.list (S.map M.D))), some (.sh h.D), some (.sh (.int h.a)), some (.sh (.int h.b)), some (.sh (.int h.c)), some (.sh (.int h.d)), some (.sh h.inv.D), none]) S (fun x hx => by
    obtain ⟨bx, dx⟩ := hS x hx
    have e1 := e_law_times hh bx (by omega)
    have e2 := e_law_times (hh.mul bx) hh.inv (by omega)
    have e3 := K.law (bx.by_ hh |> fun _ => hh.by_ bx) (by omega) (by_dt hd dx)
    rw [show h * x * h.inv = M.by_ h x from rfl] at e2
    simp [l__law_square_fits_1, e1, e2, e3]
    cases k (M.by_ h x) <;> first | rfl | simp)
  have hD : h.D = .tuple [.int h.a, .int h.b, .int h.c, .int h.d] := rfl
  rw [hfd, hD] at hl
  rw [hD]
  cases hb : S.all (fun x => k (M.by_ h x)) <;> rw [hb] at hl <;> simp [f__law_square_fits, b__law_square_fits, hl]
/-! ### papers -/
def mv6 : PyData → Option M
  | .tuple [.int a, .int b, .int c, .int d, .int e, .int f] => if e = 0 ∧ f = 0 ∧ (M.mk a b c d).det = 1 then some ⟨a, b, c, d⟩ else none
  | _ => none
theorem mv6_M {m : M} (h : m.det = 1) : mv6 m.D6 = some m := by
  show (if (0 : Int) = 0 ∧ (0 : Int) = 0 ∧ (M.mk m.a m.b m.c m.d).det = 1 then some (M.mk m.a m.b m.c m.d) else none) = some m
  rw [if_pos ⟨rfl, rfl, h⟩]
theorem mv6_some {d : PyData} {m : M} (h : mv6 d = some m) : d = m.D6 ∧ m.det = 1 := by
  unfold mv6 at h
  split at h
  · split at h
    · rename_i hc
      obtain ⟨rfl, rfl, h3⟩ := hc
      cases h
      exact ⟨rfl, h3⟩
    · cases h
  · cases h
theorem tup6 {d : PyData} (h : isTupN 6 d = true) : ∃ a b c e f g : Int, d = .tuple [.int a, .int b, .int c, .int e, .int f, .int g] := by
  cases d with
  | tuple ds =>
    simp only [isTupN, Bool.and_eq_true, decide_eq_true_eq] at h
    obtain ⟨ns, rfl⟩ := nums_of h.2
    have hl := h.1
    rw [List.length_map] at hl
    match ns, hl with
    | [a, b, c, e, f, g], _ => exact ⟨a, b, c, e, f, g, rfl⟩
  | _ => simp [isTupN] at h
theorem mv6_no {d : PyData} (h : isTupN 6 d = false) : mv6 d = none := by
  unfold mv6
  split
  · simp [isTupN, isNum] at h
  · rfl
def fit (S : List M) (k : M → Bool) (mv : PyData) : Bool := match mv6 mv with
  | some h => S.all fun x => k (M.by_ h x)
  | none => false
def rgt (S : List M) (kind mv : PyData) : Bool := (isS "square" kind && fit S kS mv) || (isS "hexagon" kind && fit S kH mv)
theorem in_kinds (z : Str) (hz : PyData.strOk z = true) : inR true (.sh (.str z)) (.fr [.str "square", .str "hexagon"]) = some (.sh (.bool (!(decide (z = "square") || decide (z = "hexagon"))))) ∧ inR true (.sh (.str z)) (.sh (.tuple [.str "square", .str "hexagon"])) = some (.sh (.bool (!(decide (z = "square") || decide (z = "hexagon"))))) := by
  have s1 : PyData.strOk "square" = true := strOk_of _
  have s2 : PyData.strOk "hexagon" = true := strOk_of _
  have h1 : SeqAt.shaped (.str z) = true := by simp [SeqAt.shaped, PyData.canLay0, PyData.depth, hz]
  have h2 : SeqAt.shaped (.list [.str "square", .str "hexagon"]) = true := by simp [PyData.canLayAll0, PyData.canLay0, PyData.depthAll, PyData.depth, s1, s2]
  have ha : [PyData.str "square", .str "hexagon"].any (fun w => PyData.eqv w (.str z)) = (decide (z = "square") || decide (z = "hexagon")) := by
    simp only [List.any_cons, List.any_nil, PyData.eqv, Bool.or_false]
    rw [Bool.eq_iff_iff]
    simp only [Bool.or_eq_true, decide_eq_true_eq, beq_iff_eq]
    exact or_congr eq_comm eq_comm
  constructor
  · simp only [inR, seq_f, Res.dat, h1, h2, and_self, if_true, ha]
  · simp only [inR, seq_t, Res.dat, h1, h2, and_self, if_true, ha]
theorem str_gd {z : Str} (g : Gd (.str z)) : PyData.strOk z = true := by
  have := g.ok
  rw [okB_s, Bool.and_eq_true] at this
  exact this.2
theorem s_ne' : ¬ ((Str.ofString "hexagon") = (Str.ofString "square")) := by decide
/-- the law's finding -/
theorem e_law_right {n : Nat} {S : List M} (hS : ∀ x ∈ S, x.bd n ∧ (x.det = 1 ∨ x.det = -1)) (hn : n < 700000) {kind mv : PyData} (gk : Gd kind) (gm : Gd mv) : f__law_right_standard [.list (S.map M.D), kind, mv] = some (.sh (.bool (rgt S kind mv))) := by
  have e6 : f__law_is_tuple [mv, .int 6] = _ := e_law_is_tuple mv 6
  have hin := fun z h => (in_kinds z h).1
  have main : ∀ (kd : Str) (k : M → Bool), Kn kd k → kind = .str kd → f__law_right_standard [.list (S.map M.D), kind, mv] = some (.sh (.bool (fit S k mv))) := by
    intro kd k K hk
    subst hk
    have hi := hin kd (str_gd gk)
    have ht : (!(decide (kd = "square") || decide (kd = "hexagon"))) = false := by
      rcases K.own with h | h <;> rw [h.1] <;> decide
    rw [ht] at hi
    cases hc : isTupN 6 mv with
    | false =>
      rw [hc] at e6
      have : fit S k mv = false := by unfold fit; rw [mv6_no hc]
      rw [this]
      simp [f__law_right_standard, b__law_right_standard, hi, e6]
    | true =>
      rw [hc] at e6
      obtain ⟨a, b, c, d, e, f, rfl⟩ := tup6 hc
      have ok := gm.ok
      simp only [okB_t, okL_c, okB_i, okL_n, Bool.and_eq_true, decide_eq_true_eq] at ok
      obtain ⟨o1, o2, o3, o4, _⟩ := ok
      have m1 := mulOk_of o1 o4 (by decide)
      have m2 := mulOk_of o2 o3 (by decide)
      have hcut : cutD [PyData.int a, .int b, .int c, .int d, .int e, .int f] none (some 4) = [PyData.int a, .int b, .int c, .int d] := cut_to _ 4
      by_cases he : e = 0
      · by_cases hf : f = 0
        · by_cases hdet : (M.mk a b c d).det = 1
          · have hfit : fit S k (.tuple [.int a, .int b, .int c, .int d, .int e, .int f]) = S.all fun x => k (M.by_ ⟨a, b, c, d⟩ x) := by
              unfold fit mv6
              simp only [he, hf, hdet, and_self, if_true]
            have el := e_law_fits K (h := ⟨a, b, c, d⟩) (m := IB) hS ⟨o1, o2, o3, o4⟩ hdet (by unfold IB; omega)
            have hD : (M.mk a b c d).D = .tuple [.int a, .int b, .int c, .int d] := rfl
            rw [hD] at el
            rw [hfit]
            unfold M.det at hdet
            simp only at hdet
            subst he hf
            simp [f__law_right_standard, b__law_right_standard, hi, e6, m1, m2, hdet, hcut, el]
          · have hfit : fit S k (.tuple [.int a, .int b, .int c, .int d, .int e, .int f]) = false := by
              unfold fit mv6
              simp only [hdet, and_false, if_false]
            rw [hfit]
            unfold M.det at hdet
            simp only at hdet
            subst he hf
            simp [f__law_right_standard, b__law_right_standard, hi, e6, m1, m2, hdet]
        · have hfit : fit S k (.tuple [.int a, .int b, .int c, .int d, .int e, .int f]) = false := by
            unfold fit mv6
            simp only [hf, and_false, false_and, if_false]
          rw [hfit]
          subst he
          simp [f__law_right_standard, b__law_right_standard, hi, e6, hf]
      · have hfit : fit S k (.tuple [.int a, .int b, .int c, .int d, .int e, .int f]) = false := by
          unfold fit mv6
          simp only [he, false_and, if_false]
        rw [hfit]
        simp [f__law_right_standard, b__law_right_standard, hi, e6, he]
  cases kind with
  | str z =>
    by_cases h1 : z = "square"
    · subst h1
      rw [main _ _ kn_S rfl]
      simp [rgt, isS, s_ne]
    · by_cases h2 : z = "hexagon"
      · subst h2
        rw [main _ _ kn_H rfl]
        simp [rgt, isS, s_ne']
      · have hi := hin z (str_gd gk)
        have ht : (!(decide (z = "square") || decide (z = "hexagon"))) = true := by simp [h1, h2]
        rw [ht] at hi
        have hr : rgt S (.str z) mv = false := by simp [rgt, isS, h1, h2]
        rw [hr]
        simp [f__law_right_standard, b__law_right_standard, hi]
  | _ => simp [f__law_right_standard, b__law_right_standard, rgt, isS]
end Lk77
set_option maxRecDepth 100000
set_option maxHeartbeats 1000000
namespace Lk77
open PySem L2 F3 Gr
theorem lc_M {elt : Rh → Option Res} {i : Nat} {ρ : Rh} {enc : M → PyData} {f : M → PyData} : ∀ S : List M, (∀ x ∈ S, elt (ρ.set i (some (.sh (enc x)))) = some (.sh (f x))) → lcD (gNm i) tYesD elt ρ (S.map enc) = some (S.map f)
  | [], _ => rfl
  | x :: S, h => by
    have e := h x List.mem_cons_self
    have ih := lc_M S fun y hy => h y (List.mem_cons_of_mem _ hy)
    rw [List.map_cons, lcD]
    simp only [gNm, Option.bind_some, tYesD, if_true, e, shr_s, ih, List.map_cons]
theorem e_made_by {n m : Nat} {S : List M} {h : M} (hS : ∀ x ∈ S, x.bd n) (hl : S.length ≤ 1000) (hh : h.bd m) (hd : h.det = 1) (hn : n + m + m < 800000) : f_made_by [.list (S.map M.D6), h.D6] = some (.fr (S.map fun x => (M.by_ h x).D6)) := by
  have eu := e_undoing hh (Or.inl hd) (by omega)
  rw [vni_one hd] at eu
  have e := lc_M (elt := (eFn f_after (aCons (eFn f_after (aCons (eFn f_undoing (aCons (eVar 1) aNil)) (aCons (eVar 2) aNil))) (aCons (eVar 1) aNil)))) (i := 2) (ρ := [some (.sh (.list (S.map M.D6))), some (.sh h.D6), none]) (enc := M.D6) (f := fun x => (M.by_ h x).D6) S (fun x hx => by
    have bx := hS x hx
    have e1 := e_after hh.inv bx (by omega)
    have e2 := e_after (bx.mul hh.inv) hh (by omega)
    have : h * (x * h.inv) = M.by_ h x := by unfold M.by_; rw [M.mul_assoc]
    rw [this] at e2
    simp [eu, e1, e2])
  have hl' : S.length ≤ 1000000 := by omega
  simp [f_made_by, b_made_by, wipeD, e, hl']
theorem in_pm (t : Int) : inR false (.sh (.int t)) (.sh (.tuple [.int 1, .int (-1)])) = some (.sh (.bool (decide (t = 1 ∨ t = -1)))) := by
  have h2 : SeqAt.shaped (.list [.int 1, .int (-1)]) = true := by simp [PyData.canLayAll0, PyData.canLay0, PyData.depthAll, PyData.depth]
  have ha : [PyData.int 1, .int (-1)].any (fun w => PyData.eqv w (.int t)) = decide (t = 1 ∨ t = -1) := by
    simp only [List.any_cons, List.any_nil, PyData.eqv, Bool.or_false]
    rw [Bool.eq_iff_iff]
    simp only [Bool.or_eq_true, decide_eq_true_eq, beq_iff_eq]
    exact or_congr eq_comm eq_comm
  simp only [inR, seq_t, Res.dat, sp_int, h2, and_self, if_true, ha, Bool.false_eq_true, if_false]
/-- the loop of shows_standard -/
theorem shows_loop {kd : Str} {k : M → Bool} (K : Kn kd k) (q0 q2 : Option Res) (T : List M) : forD (gNm 3) l_shows_standard_1 (T.map M.D6) [q0, some (.sh (.str kd)), q2, none] = some (if T.all k = true then .nx [q0, some (.sh (.str kd)), q2, none] else .rt (.sh (.bool false))) :=
  for_allM T fun x hx => by
    have eS := e_keeps_square x
    have eH := e_keeps_hexagon x
    rcases K.own with ⟨rfl, rfl⟩ | ⟨rfl, rfl⟩
    · cases hk : kS x <;> rw [hk] at eS <;> simp [l_shows_standard_1, eS, s_ne]
    · cases hk : kH x <;> rw [hk] at eH <;> simp [l_shows_standard_1, eH, s_ne']
/-- with a move of its own -/
theorem e_shows_M {kd : Str} {k : M → Bool} (K : Kn kd k) {n m : Nat} {S : List M} {h : M} (hS : ∀ x ∈ S, x.bd n) (hl : S.length ≤ 1000) (hh : h.bd m) (hd : h.det = 1) (hn : n + m + m < 800000) : f_shows_standard [.list (S.map M.D6), .str kd, h.D6] = some (.sh (.bool (S.all fun x => k (M.by_ h x)))) := by
  have hi := (in_kinds kd (by rcases K.own with h | h <;> rw [h.1] <;> exact strOk_of _)).2
  have ht : (!(decide (kd = "square") || decide (kd = "hexagon"))) = false := by
    rcases K.own with h | h <;> rw [h.1] <;> decide
  rw [ht] at hi
  have e6 : f_is_number_tuple [h.D6, .int 6] = _ := e_is_number_tuple h.D6 6
  have hc : isTupN 6 h.D6 = true := by simp [isTupN, M.D6, isNum]
  rw [hc] at e6
  have es := e_strength hh (by omega)
  rw [hd] at es
  have ip := in_pm 1
  have em : f_is_move [h.D6] = some (.sh (.bool true)) := by
    simp [f_is_move, b_is_move, e6, es, ip]
  have epl := e_is_plain h
  have emb := e_made_by hS hl hh hd hn
  have lp := shows_loop K (some (.sh (.list (S.map M.D6)))) (some (.sh h.D6)) (S.map (M.by_ h))
  rw [List.map_map, List.all_map] at lp
  have e1 : (M.D6 ∘ M.by_ h) = fun x => (M.by_ h x).D6 := rfl
  have e2 : (k ∘ M.by_ h) = fun x => k (M.by_ h x) := rfl
  rw [e1, e2] at lp
  cases hb : S.all (fun x => k (M.by_ h x)) <;> rw [hb] at lp <;> simp [f_shows_standard, b_shows_standard, hi, em, epl, es, emb, lp]
/-- any papers -/
theorem e_shows {n : Nat} {S : List M} (hS : ∀ x ∈ S, x.bd n) (hl : S.length ≤ 1000) (hn : n < 700000) {kind mv : PyData} (gk : Gd kind) (gm : Gd mv) : f_shows_standard [.list (S.map M.D6), kind, mv] = some (.sh (.bool (rgt S kind mv))) := by
  have e6 : f_is_number_tuple [mv, .int 6] = _ := e_is_number_tuple mv 6
  have hin := fun z h => (in_kinds z h).2
  have main : ∀ (kd : Str) (k : M → Bool), Kn kd k → kind = .str kd → f_shows_standard [.list (S.map M.D6), kind, mv] = some (.sh (.bool (fit S k mv))) := by
    intro kd k K hk
    subst hk
    have hi := hin kd (str_gd gk)
    have ht : (!(decide (kd = "square") || decide (kd = "hexagon"))) = false := by
      rcases K.own with h | h <;> rw [h.1] <;> decide
    rw [ht] at hi
    cases hc : isTupN 6 mv with
    | false =>
      rw [hc] at e6
      have : fit S k mv = false := by unfold fit; rw [mv6_no hc]
      rw [this]
      have em : f_is_move [mv] = some (.sh (.bool false)) := by simp [f_is_move, b_is_move, e6]
      simp [f_shows_standard, b_shows_standard, hi, em]
    | true =>
      rw [hc] at e6
      obtain ⟨a, b, c, d, e, f, rfl⟩ := tup6 hc
      have ok := gm.ok
      simp only [okB_t, okL_c, okB_i, okL_n, Bool.and_eq_true, decide_eq_true_eq] at ok
      obtain ⟨o1, o2, o3, o4, _⟩ := ok
      have m1 := mulOk_of o1 o4 (by decide)
      have m2 := mulOk_of o2 o3 (by decide)
      have es : f_strength [.tuple [.int a, .int b, .int c, .int d, .int e, .int f]] = some (.sh (.int (a * d - b * c))) := by
        simp [f_strength, b_strength, m1, m2]
      have ip := in_pm (a * d - b * c)
      have em : f_is_move [.tuple [.int a, .int b, .int c, .int d, .int e, .int f]] = some (.sh (.bool (decide (a * d - b * c = 1 ∨ a * d - b * c = -1)))) := by
        generalize a * d - b * c = t at *
        simp [f_is_move, b_is_move, e6, es, ip]
      have epl : f_is_plain [.tuple [.int a, .int b, .int c, .int d, .int e, .int f]] = some (.sh (.bool (decide (e = 0) && decide (f = 0)))) := by
        by_cases he : e = 0
        · subst he
          simp [f_is_plain, b_is_plain]
          by_cases hf : f = 0 <;> simp [hf]
        · simp [f_is_plain, b_is_plain, he]
      by_cases hall : e = 0 ∧ f = 0 ∧ (M.mk a b c d).det = 1
      · obtain ⟨rfl, rfl, hdet⟩ := hall
        have hfit : fit S k (.tuple [.int a, .int b, .int c, .int d, .int 0, .int 0]) = S.all fun x => k (M.by_ ⟨a, b, c, d⟩ x) := by
          unfold fit mv6
          simp only [hdet, and_self, if_true]
        rw [hfit]
        exact e_shows_M K (h := ⟨a, b, c, d⟩) (m := IB) hS hl ⟨o1, o2, o3, o4⟩ hdet (by unfold IB; omega)
      · have hfit : fit S k (.tuple [.int a, .int b, .int c, .int d, .int e, .int f]) = false := by
          unfold fit mv6
          simp only [if_neg hall]
        rw [hfit]
        have hall' : ¬ (e = 0 ∧ f = 0 ∧ a * d - b * c = 1) := hall
        generalize a * d - b * c = t at *
        by_cases ht1 : t = 1
        · have hp : ¬ (e = 0 ∧ f = 0) := fun z => hall' ⟨z.1, z.2, ht1⟩
          have hp2 : (decide (e = 0) && decide (f = 0)) = false := by
            rw [Bool.and_eq_false_iff, decide_eq_false_iff_not, decide_eq_false_iff_not]
            by_cases he : e = 0
            · exact Or.inr fun hf => hp ⟨he, hf⟩
            · exact Or.inl he
          rw [hp2] at epl
          have hm : decide (t = 1 ∨ t = -1) = true := decide_eq_true (Or.inl ht1)
          rw [hm] at em
          simp [f_shows_standard, b_shows_standard, hi, em, epl]
        · cases hm : decide (t = 1 ∨ t = -1) with
          | false =>
            rw [hm] at em
            simp [f_shows_standard, b_shows_standard, hi, em]
          | true =>
            rw [hm] at em
            cases hp : (decide (e = 0) && decide (f = 0)) with
            | false =>
              rw [hp] at epl
              simp [f_shows_standard, b_shows_standard, hi, em, epl]
            | true =>
              rw [hp] at epl
              simp [f_shows_standard, b_shows_standard, hi, em, epl, es, ht1]
  cases kind with
  | str z =>
    by_cases h1 : z = "square"
    · subst h1
      rw [main _ _ kn_S rfl]
      simp [rgt, isS, s_ne]
    · by_cases h2 : z = "hexagon"
      · subst h2
        rw [main _ _ kn_H rfl]
        simp [rgt, isS, s_ne']
      · have hi := hin z (str_gd gk)
        have ht : (!(decide (z = "square") || decide (z = "hexagon"))) = true := by simp [h1, h2]
        rw [ht] at hi
        have hr : rgt S (.str z) mv = false := by simp [rgt, isS, h1, h2]
        rw [hr]
        simp [f_shows_standard, b_shows_standard, hi]
  | _ => simp [f_shows_standard, b_shows_standard, rgt, isS]
end Lk77
set_option maxRecDepth 100000
set_option maxHeartbeats 1000000
set_option exponentiation.threshold 5000
namespace Lk77
open PySem L2 F3 Gr
theorem e_nearest {f s : Int} (h : s ≠ 0) (bf : F3.Bd 4000 f) (bs : F3.Bd 4000 s) : ∃ k : Int, f_nearest [.int f, .int s] = some (.sh (.int k)) ∧ 2 * (f - k * s).natAbs ≤ s.natAbs := by
  by_cases h0 : s < 0
  · have m1 : mulOk 2 (-f) := mulOk_of (show F3.Bd 3 2 by decide) bf.neg (by decide)
    have m2 : mulOk 2 (-s) := mulOk_of (show F3.Bd 3 2 by decide) bs.neg (by decide)
    have hd : divOk (2 * (-s)) := divOk_of (by omega) ((show F3.Bd 3 2 by decide).mul bs.neg) (by decide)
    have hn := near_pos (f := -f) (s := -s) (by omega)
    refine ⟨(2 * (-f) + (-s)) / (2 * (-s)), ?_, ?_⟩
    · clear hn
      obtain ⟨f', hf'⟩ : ∃ f', -f = f' := ⟨_, rfl⟩
      obtain ⟨s', hs'⟩ : ∃ s', -s = s' := ⟨_, rfl⟩
      rw [hf'] at m1 ⊢
      rw [hs'] at m2 hd ⊢
      simp [f_nearest, b_nearest, h0, hf', hs', m1, m2, hd]
    · generalize (2 * (-f) + (-s)) / (2 * (-s)) = k at *
      rw [Int.mul_neg] at hn
      generalize k * s = p at *
      omega
  · have m1 : mulOk 2 f := mulOk_of (show F3.Bd 3 2 by decide) bf (by decide)
    have m2 : mulOk 2 s := mulOk_of (show F3.Bd 3 2 by decide) bs (by decide)
    have hd : divOk (2 * s) := divOk_of (by omega) ((show F3.Bd 3 2 by decide).mul bs) (by decide)
    refine ⟨(2 * f + s) / (2 * s), ?_, near_pos (by omega)⟩
    simp [f_nearest, b_nearest, h0, m1, m2, hd]
/-! ### the form -/
theorem sum_bd {n : Nat} : ∀ (l : List Int) (k : Nat), (∀ i ∈ l, F3.Bd n i) → l.length ≤ 2 ^ k → F3.Bd (n + k) l.sum := by
  have key : ∀ l : List Int, (∀ i ∈ l, F3.Bd n i) → l.sum.natAbs ≤ l.length * (2 ^ n - 1) := by
    intro l
    induction l with
    | nil => intro _; simp
    | cons i l ih =>
      intro h
      have h1 := ih fun j hj => h j (List.mem_cons_of_mem _ hj)
      have h2 : i.natAbs < 2 ^ n := h i List.mem_cons_self
      rw [List.sum_cons, List.length_cons, Nat.succ_mul]
      have := Int.natAbs_add_le i l.sum
      omega
  intro l k h hl
  have h1 := key l h
  have p := Nat.two_pow_pos n
  have pk := Nat.two_pow_pos k
  show l.sum.natAbs < 2 ^ (n + k)
  have h2 : l.length * (2 ^ n - 1) ≤ 2 ^ k * (2 ^ n - 1) := Nat.mul_le_mul_right _ hl
  have h3 : 2 ^ k * (2 ^ n - 1) < 2 ^ k * 2 ^ n := Nat.mul_lt_mul_of_pos_left (by omega) pk
  rw [Nat.pow_add, Nat.mul_comm (2 ^ n)]
  omega
theorem fABC_bd {n : Nat} {x : M} (h : x.bd n) : F3.Bd (n + n + 1) (fA x) ∧ F3.Bd (n + n + 1) (fB x) ∧ F3.Bd (n + n + 1) (fC x) := by
  obtain ⟨h1, h2, h3, h4⟩ := h
  exact ⟨(h1.mul h1).add (h3.mul h3), (h1.mul h2).add (h3.mul h4), (h2.mul h2).add (h4.mul h4)⟩
theorem q_bd {n : Nat} {S : List M} (h : ∀ x ∈ S, x.bd n) (hl : S.length ≤ 16) : F3.Bd (n + n + 5) (qa S) ∧ F3.Bd (n + n + 5) (qb S) ∧ F3.Bd (n + n + 5) (qc S) := by
  refine ⟨sum_bd (n := n + n + 1) _ 4 (fun i hi => ?_) (by rw [List.length_map]; exact hl), sum_bd (n := n + n + 1) _ 4 (fun i hi => ?_) (by rw [List.length_map]; exact hl), sum_bd (n := n + n + 1) _ 4 (fun i hi => ?_) (by rw [List.length_map]; exact hl)⟩
  · obtain ⟨x, hx, rfl⟩ := List.mem_map.mp hi
    exact (fABC_bd (h x hx)).1
  · obtain ⟨x, hx, rfl⟩ := List.mem_map.mp hi
    exact (fABC_bd (h x hx)).2.1
  · obtain ⟨x, hx, rfl⟩ := List.mem_map.mp hi
    exact (fABC_bd (h x hx)).2.2
theorem toInts_map : ∀ ns : List Int, toInts (ns.map .int) = some ns
  | [] => rfl
  | n :: ns => by rw [List.map_cons, toInts, toInts_map ns]
theorem sumR_map (ns : List Int) : sumR (.fr (ns.map .int)) = some (.sh (.int ns.sum)) := by
  unfold sumR
  simp only [lst_f, toInts_map]
theorem e_form_of {n : Nat} {S : List M} (h : ∀ x ∈ S, x.bd n) (hl : S.length ≤ 16) (hn : n + n < 800000) : f_form_of [.list (S.map M.D6)] = some (.sh (.tuple [.int (qa S), .int (qb S), .int (qc S)])) := by
  have hl' : S.length ≤ 1000000 := by omega
  have l1 := lc_M (elt := (eBin addR (eBin mulI (eBin ixR (eVar 4) (eC (.int 0))) (eBin ixR (eVar 4) (eC (.int 0)))) (eBin mulI (eBin ixR (eVar 4) (eC (.int 2))) (eBin ixR (eVar 4) (eC (.int 2)))))) (i := 4) (ρ := [some (.sh (.list (S.map M.D6))), none, none, none, none]) (enc := M.D6) (f := fun x => .int (fA x)) S (fun x hx => by
    obtain ⟨h1, h2, h3, h4⟩ := h x hx
    have m1 := mulOk_of h1 h1 (by omega)
    have m2 := mulOk_of h3 h3 (by omega)
    simp [M.D6, m1, m2, fA])
  have l2 := lc_M (elt := (eBin addR (eBin mulI (eBin ixR (eVar 4) (eC (.int 0))) (eBin ixR (eVar 4) (eC (.int 1)))) (eBin mulI (eBin ixR (eVar 4) (eC (.int 2))) (eBin ixR (eVar 4) (eC (.int 3)))))) (i := 4) (ρ := [some (.sh (.list (S.map M.D6))), some (.sh (.int (qa S))), none, none, none]) (enc := M.D6) (f := fun x => .int (fB x)) S (fun x hx => by
    obtain ⟨h1, h2, h3, h4⟩ := h x hx
    have m1 := mulOk_of h1 h2 (by omega)
    have m2 := mulOk_of h3 h4 (by omega)
    simp [M.D6, m1, m2, fB])
  have l3 := lc_M (elt := (eBin addR (eBin mulI (eBin ixR (eVar 4) (eC (.int 1))) (eBin ixR (eVar 4) (eC (.int 1)))) (eBin mulI (eBin ixR (eVar 4) (eC (.int 3))) (eBin ixR (eVar 4) (eC (.int 3)))))) (i := 4) (ρ := [some (.sh (.list (S.map M.D6))), some (.sh (.int (qa S))), some (.sh (.int (qb S))), none, none]) (enc := M.D6) (f := fun x => .int (fC x)) S (fun x hx => by
    obtain ⟨h1, h2, h3, h4⟩ := h x hx
    have m1 := mulOk_of h2 h2 (by omega)
    have m2 := mulOk_of h4 h4 (by omega)
    simp [M.D6, m1, m2, fC])
  have s1 := sumR_map (S.map fA)
  have s2 := sumR_map (S.map fB)
  have s3 := sumR_map (S.map fC)
  have r1 : (S.map fA).map PyData.int = S.map (fun x => .int (fA x)) := by rw [List.map_map]; rfl
  have r2 : (S.map fB).map PyData.int = S.map (fun x => .int (fB x)) := by rw [List.map_map]; rfl
  have r3 : (S.map fC).map PyData.int = S.map (fun x => .int (fC x)) := by rw [List.map_map]; rfl
  rw [r1] at s1
  rw [r2] at s2
  rw [r3] at s3
  rw [show (S.map fA).sum = qa S from rfl] at s1
  rw [show (S.map fB).sum = qb S from rfl] at s2
  rw [show (S.map fC).sum = qc S from rfl] at s3
  simp [f_form_of, b_form_of, wipeD, hl', l1, l2, l3, s1, s2, s3]
/-! ### vectors -/
def V2 (x y : Int) : PyData := .tuple [.int x, .int y]
theorem bil_bd {f n m : Nat} {A B C x y u v : Int} (hA : F3.Bd f A) (hB : F3.Bd f B) (hC : F3.Bd f C) (hx : F3.Bd n x) (hy : F3.Bd n y) (hu : F3.Bd m u) (hv : F3.Bd m v) : F3.Bd (f + n + m + 3) (bil A B C x y u v) := by
  unfold bil
  have h1 := ((hA.mul hx).mul hu)
  have h2 := hB.mul ((hx.mul hv).add ((hy.mul hu).mono (show n + m ≤ n + m by omega)))
  have h3 := ((hC.mul hy).mul hv)
  exact (((h1.mono (show f + n + m ≤ f + (n + m + 1) by omega)).add h2).add (h3.mono (by omega))).mono (by omega)
theorem e_mixed {f n m : Nat} {A B C x y u v : Int} (hA : F3.Bd f A) (hB : F3.Bd f B) (hC : F3.Bd f C) (hx : F3.Bd n x) (hy : F3.Bd n y) (hu : F3.Bd m u) (hv : F3.Bd m v) (h : f + n + m < 800000) :
    f_mixed_value [.tuple [.int A, .int B, .int C], V2 x y, V2 u v] = some (.sh (.int (bil A B C x y u v))) := by
  have m1 := mulOk_of hx hv (by omega)
  have m2 := mulOk_of hy hu (by omega)
  have m3 := mulOk_of hA hx (by omega)
  have m4 := mulOk_of (hA.mul hx) hu (by omega)
  have m5 := mulOk_of hB ((hx.mul hv).add ((hy.mul hu).mono (show n + m ≤ n + m by omega))) (by omega)
  have m6 := mulOk_of hC hy (by omega)
  have m7 := mulOk_of (hC.mul hy) hv (by omega)
  simp [f_mixed_value, b_mixed_value, V2, m1, m2, m3, m4, m5, m6, m7, bil]
theorem e_taken {n m : Nat} {x y t : Int} (hx : F3.Bd n x) (hy : F3.Bd n y) (ht : F3.Bd m t) (h : n + m < 800000) : f_taken [V2 x y, .int t] = some (.sh (V2 (x * t) (y * t))) := by
  have m1 := mulOk_of hx ht (by omega)
  have m2 := mulOk_of hy ht (by omega)
  simp [f_taken, b_taken, V2, m1, m2]
theorem e_from_to (x y u v : Int) : f_from_to [V2 x y, V2 u v] = some (.sh (V2 (u - x) (v - y))) := by
  simp [f_from_to, b_from_to, V2]
theorem e_straight {f n m : Nat} {A B C x y u v : Int} (hA : F3.Bd f A) (hB : F3.Bd f B) (hC : F3.Bd f C) (hx : F3.Bd n x) (hy : F3.Bd n y) (hu : F3.Bd m u) (hv : F3.Bd m v) (h : f + n + m + m < 3900) (hq : 0 < bil A B C u v u v) :
    ∃ t : Int, f_straightened [.tuple [.int A, .int B, .int C], V2 x y, V2 u v] = some (.sh (V2 (x - u * t) (y - v * t))) ∧ 2 * (bil A B C x y u v - t * bil A B C u v u v).natAbs ≤ (bil A B C u v u v).natAbs ∧ F3.Bd (f + n + m + m + 5) t := by
  have e1 := e_mixed hA hB hC hx hy hu hv (by omega)
  have e2 := e_mixed hA hB hC hu hv hu hv (by omega)
  have b1 := bil_bd hA hB hC hx hy hu hv
  have b2 := bil_bd hA hB hC hu hv hu hv
  obtain ⟨t, et, ht⟩ := e_nearest (f := bil A B C x y u v) (s := bil A B C u v u v) (by omega) (b1.mono (by omega)) (b2.mono (by omega))
  have bt : F3.Bd (f + n + m + m + 5) t := by
    have h1 : t.natAbs ≤ (t * bil A B C u v u v).natAbs := by
      rw [Int.natAbs_mul]
      exact Nat.le_mul_of_pos_right _ (by omega)
    have c1 : (bil A B C x y u v).natAbs < 2 ^ (f + n + m + m + 3) := b1.mono (by omega)
    have c2 : (bil A B C u v u v).natAbs < 2 ^ (f + n + m + m + 3) := b2.mono (by omega)
    have p : 2 ^ (f + n + m + m + 5) = 4 * 2 ^ (f + n + m + m + 3) := by rw [show f + n + m + m + 5 = (f + n + m + m + 3) + 2 by omega, Nat.pow_add]; omega
    show t.natAbs < 2 ^ (f + n + m + m + 5)
    rw [p]
    generalize t * bil A B C u v u v = w at *
    omega
  have e3 := e_taken hu hv bt (by omega)
  have e4 := e_from_to (u * t) (v * t) x y
  exact ⟨t, by simp [f_straightened, b_straightened, e1, e2, et, e3, e4], ht, bt⟩
end Lk77
set_option maxRecDepth 100000
set_option maxHeartbeats 1000000
set_option exponentiation.threshold 5000
namespace Lk77
open PySem L2 F3 Gr
theorem sq_le (x : Int) : x.natAbs ≤ (x * x).natAbs := by
  rw [Int.natAbs_mul]
  rcases Nat.eq_zero_or_pos x.natAbs with h | h
  · rw [h]; decide
  · exact Nat.le_mul_of_pos_right _ h
theorem bil_pos {A B C x y : Int} (pos : ∀ x y, x * x + y * y ≤ bil A B C x y x y) (h : x ≠ 0 ∨ y ≠ 0) : 0 < bil A B C x y x y := by
  have h1 := pos x y
  have h2 := sq_nn x
  have h3 := sq_nn y
  have h4 := sq_le x
  have h5 := sq_le y
  omega
theorem not00 {x y u v : Int} (h : x * v - u * y = 1) : (x ≠ 0 ∨ y ≠ 0) ∧ (u ≠ 0 ∨ v ≠ 0) := by
  constructor
  · by_cases hx : x = 0
    · refine Or.inr fun hy => ?_
      rw [hx, hy] at h
      simp at h
    · exact Or.inl hx
  · by_cases hu : u = 0
    · refine Or.inr fun hv => ?_
      rw [hu, hv] at h
      simp at h
    · exact Or.inl hu
structure Bas (A B C : Int) (k : Nat) (x y u v : Int) : Prop where
  det : x * v - u * y = 1
  mid : 2 * (bil A B C u v x y).natAbs ≤ (bil A B C x y x y).natAbs
  bx : F3.Bd 301 x
  by' : F3.Bd 301 y
  bu : F3.Bd 1600 u
  bv : F3.Bd 1600 v
  val : bil A B C x y x y < 2 ^ 300
  meas : (bil A B C x y x y).toNat ≤ k
theorem e_least {A B C : Int} (hA : F3.Bd 300 A) (hB : F3.Bd 300 B) (hC : F3.Bd 300 C) (pos : ∀ x y, x * x + y * y ≤ bil A B C x y x y) :
    ∃ x y u v : Int, f_least_basis [.tuple [.int A, .int B, .int C]] = some (.sh (.tuple [V2 x y, V2 u v])) ∧ x * v - u * y = 1 ∧ 2 * (bil A B C u v x y).natAbs ≤ (bil A B C x y x y).natAbs ∧ bil A B C x y x y ≤ bil A B C u v u v ∧ F3.Bd 1600 x ∧ F3.Bd 1600 y ∧ F3.Bd 1600 u ∧ F3.Bd 1600 v := by
  have z0 : F3.Bd 3 0 := by decide
  have z1 : F3.Bd 3 1 := by decide
  have zm : F3.Bd 3 (-1) := by decide
  have eA : bil A B C 1 0 1 0 = A := by unfold bil; simp
  have pA : 0 < A := by have := bil_pos pos (x := 1) (y := 0) (Or.inl (by decide)); rwa [eA] at this
  obtain ⟨t0, es0, ht0, bt0⟩ := e_straight hA hB hC z0 z1 z1 z0 (by decide) (by rw [eA]; exact pA)
  have start : Bas A B C (bil A B C 1 0 1 0).toNat 1 0 (0 - 1 * t0) (1 - 0 * t0) := by
    refine ⟨by simp, ?_, z1.mono (by decide), z0.mono (by decide), ?_, ?_, by rw [eA]; exact hA.lt, Nat.le_refl _⟩
    · have : bil A B C (0 - 1 * t0) (1 - 0 * t0) 1 0 = bil A B C 0 1 1 0 - t0 * bil A B C 1 0 1 0 := by unfold bil; grind
      rw [this]
      exact ht0
    · exact ((z0.mono (show 3 ≤ 400 by decide)).sub ((z1.mul bt0).mono (by decide))).mono (by decide)
    · exact ((z1.mono (show 3 ≤ 400 by decide)).sub ((z0.mul bt0).mono (by decide))).mono (by decide)
  obtain ⟨ρ', e, x, y, u, v, q1, q2, q3, q4, q5, q6, q7, rfl⟩ := while_inv (k := w_least_basis_2) (b := l_least_basis_1) (fun k ρ => ∃ x y u v : Int, ρ = [some (.sh (.tuple [.int A, .int B, .int C])), some (.sh (V2 x y)), some (.sh (V2 u v))] ∧ Bas A B C k x y u v)
    (fun ρ => ∃ x y u v : Int, x * v - u * y = 1 ∧ 2 * (bil A B C u v x y).natAbs ≤ (bil A B C x y x y).natAbs ∧ bil A B C x y x y ≤ bil A B C u v u v ∧ F3.Bd 1600 x ∧ F3.Bd 1600 y ∧ F3.Bd 1600 u ∧ F3.Bd 1600 v ∧ ρ = [some (.sh (.tuple [.int A, .int B, .int C])), some (.sh (V2 x y)), some (.sh (V2 u v))])
    (fun k ρ hI => by
      obtain ⟨x, y, u, v, rfl, P⟩ := hI
      obtain ⟨p1, p2, p3, p4, p5, p6, p7, p8⟩ := P
      obtain ⟨n1, n2⟩ := not00 p1
      have m1 := e_mixed hA hB hC p5 p6 p5 p6 (by decide)
      have m2 := e_mixed hA hB hC p3 p4 p3 p4 (by decide)
      have g1 := bil_pos pos n1
      have g2 := bil_pos pos n2
      by_cases hlt : bil A B C u v u v < bil A B C x y x y
      · refine Or.inr ⟨by simp [w_least_basis_2, m1, m2, hlt], ?_⟩
        have hu2 := pos u v
        have bu : F3.Bd 300 u := by
          have h1 := sq_le u
          have h2 := sq_nn v
          have h3 := sq_nn u
          show u.natAbs < 2 ^ 300
          omega
        have bv : F3.Bd 300 v := by
          have h1 := sq_le v
          have h2 := sq_nn v
          have h3 := sq_nn u
          show v.natAbs < 2 ^ 300
          omega
        have et := e_taken p3 p4 zm (by decide)
        obtain ⟨t, es, ht, bt⟩ := e_straight hA hB hC (p3.mul zm) (p4.mul zm) bu bv (by decide) g2
        refine ⟨[some (.sh (.tuple [.int A, .int B, .int C])), some (.sh (V2 u v)), some (.sh (V2 (x * -1 - u * t) (y * -1 - v * t)))], ?_, (bil A B C u v u v).toNat, by omega, u, v, x * -1 - u * t, y * -1 - v * t, rfl, ?_⟩
        · generalize hxx : x * -1 = xx at *
          generalize hyy : y * -1 = yy at *
          simp [l_least_basis_1, sPar, et, es]
        · refine ⟨by grind, ?_, bu.mono (by decide), bv.mono (by decide), ?_, ?_, by omega, Nat.le_refl _⟩
          · have : bil A B C (x * -1 - u * t) (y * -1 - v * t) u v = bil A B C (x * -1) (y * -1) u v - t * bil A B C u v u v := by unfold bil; grind
            rw [this]
            exact ht
          · exact (((p3.mul zm).mono (show 301 + 3 ≤ 1590 by decide)).sub ((bu.mul bt).mono (by decide))).mono (by decide)
          · exact (((p4.mul zm).mono (show 301 + 3 ≤ 1590 by decide)).sub ((bv.mul bt).mono (by decide))).mono (by decide)
      · exact Or.inl ⟨by simp [w_least_basis_2, m1, m2, hlt], x, y, u, v, p1, p2, by omega, p3.mono (by decide), p4.mono (by decide), p5, p6, rfl⟩)
    (bil A B C 1 0 1 0).toNat [some (.sh (.tuple [.int A, .int B, .int C])), some (.sh (V2 1 0)), some (.sh (V2 (0 - 1 * t0) (1 - 0 * t0)))] ⟨1, 0, _, _, rfl, start⟩
  refine ⟨x, y, u, v, ?_, q1, q2, q3, q4, q5, q6, q7⟩
  have v1 : PyData.tuple [.int 1, .int 0] = V2 1 0 := rfl
  have v2 : PyData.tuple [.int 0, .int 1] = V2 0 1 := rfl
  generalize hxx : (0 - 1 * t0 : Int) = xx at *
  generalize hyy : (1 - 0 * t0 : Int) = yy at *
  simp [f_least_basis, b_least_basis, v1, v2, es0, e]
theorem e_settle {n : Nat} {S : List M} (g : Grp S) (h : ∀ x ∈ S, x.bd n) (hn : n ≤ 140) (hl : S.length ≤ 12) : ∃ P : M, f_settling [.tuple [.int (qa S), .int (qb S), .int (qc S)]] = some (.sh P.inv.D6) ∧ P.det = 1 ∧ P.bd 1600 ∧
    Red (bil (qa S) (qb S) (qc S) P.a P.c P.a P.c) (bil (qa S) (qb S) (qc S) P.a P.c P.b P.d) (bil (qa S) (qb S) (qc S) P.b P.d P.b P.d) := by
  obtain ⟨b1, b2, b3⟩ := q_bd h (by omega)
  have pos := fun x y => bil_ge g.one x y
  obtain ⟨x, y, u, v, e, d, m, l, bx, by', bu, bv⟩ := e_least (b1.mono (by omega)) (b2.mono (by omega)) (b3.mono (by omega)) pos
  have hd : (M.mk x u y v).det = 1 := d
  have eu := e_undoing (x := ⟨x, u, y, v⟩) (n := 1600) ⟨bx, bu, by', bv⟩ (Or.inl hd) (by decide)
  rw [vni_one hd] at eu
  have p0 := bil_pos pos (not00 d).1
  refine ⟨⟨x, u, y, v⟩, ?_, hd, ⟨bx, bu, by', bv⟩, ⟨(show 1 ≤ bil (qa S) (qb S) (qc S) x y x y by omega), ?_, l⟩⟩
  · have hD : (M.mk x u y v).D6 = .tuple [.int x, .int u, .int y, .int v, .int 0, .int 0] := rfl
    rw [hD] at eu
    simp only [V2] at e
    simp [f_settling, b_settling, e, eu]
  · have : bil (qa S) (qb S) (qc S) x y u v = bil (qa S) (qb S) (qc S) u v x y := by unfold bil; grind
    rw [this]
    exact m
end Lk77
set_option maxRecDepth 100000
set_option maxHeartbeats 1000000
set_option exponentiation.threshold 5000
namespace Lk77
open PySem L2 F3 Gr
theorem near_D : c_NEAR_MOVES = .tuple (near.map M.D6) := rfl
theorem near_bd : ∀ s ∈ near, s.bd 1 := by
  intro s h
  unfold near at h
  simp only [List.mem_cons, List.not_mem_nil, or_false] at h
  rcases h with rfl | rfl | rfl | rfl | rfl <;> exact ⟨by decide, by decide, by decide, by decide⟩
theorem near_det : ∀ s ∈ near, s.det = 1 := by decide
theorem by_seen (s P x : M) : M.by_ (s * P.inv) x = M.by_ s (seen P x) := by
  unfold M.by_ seen
  rw [M.inv_mul_rev, M.inv_inv]
  simp only [M.mul_assoc]
theorem lc_near {kd : Str} {k : M → Bool} (K : Kn kd k) {n : Nat} {S : List M} {P : M} (hS : ∀ x ∈ S, x.bd n) (hn : n ≤ 200000) (hl : S.length ≤ 1000) (hP : P.det = 1) (bP : P.bd 1600) (q3 : Option Res) : ∀ T : List M, (∀ s ∈ T, s.bd 1 ∧ s.det = 1) →
    lcD (gNm 4) (tOf (eFn f_shows_standard (aCons (eVar 0) (aCons (eVar 1) (aCons (eFn f_after (aCons (eVar 2) (aCons (eVar 4) aNil))) aNil))))) (eFn f_after (aCons (eVar 2) (aCons (eVar 4) aNil))) [some (.sh (.list (S.map M.D6))), some (.sh (.str kd)), some (.sh P.inv.D6), q3, none] (T.map M.D6) = some ((T.filter fun s => S.all fun x => k (M.by_ s (seen P x))).map fun s => (s * P.inv).D6)
  | [], _ => rfl
  | s :: T, h => by
    obtain ⟨bs, ds⟩ := h s List.mem_cons_self
    have ih := lc_near K hS hn hl hP bP q3 T fun t ht => h t (List.mem_cons_of_mem _ ht)
    have ea := e_after bP.inv bs (by decide)
    have hd : (s * P.inv).det = 1 := by rw [M.det_mul, M.det_inv, ds, hP]; rfl
    have es := e_shows_M K hS hl (bs.mul bP.inv) hd (by omega)
    have he : (S.all fun x => k (M.by_ (s * P.inv) x)) = S.all fun x => k (M.by_ s (seen P x)) := by
      congr 1
      funext x
      rw [by_seen]
    rw [he] at es
    rw [List.map_cons, lcD, List.filter_cons]
    cases hb : S.all (fun x => k (M.by_ s (seen P x))) with
    | true =>
      rw [hb] at es
      simp only [if_true, List.map_cons]
      simp [ea, es, ih]
    | false =>
      rw [hb] at es
      simp only [Bool.false_eq_true, if_false]
      simp [ea, es, ih]
theorem e_standard_of {kd : Str} {k : M → Bool} (K : Kn kd k) {n : Nat} {S : List M} (g : Grp S) (h : ∀ x ∈ S, x.bd n) (hn : n ≤ 140) (hl : S.length ≤ 12) (hk : (kd = "hexagon" ∧ S.length % 3 = 0) ∨ (kd = "square" ∧ ¬ S.length % 3 = 0))
    (hm : ∀ P : M, P.det = 1 → Red (bil (qa S) (qb S) (qc S) P.a P.c P.a P.c) (bil (qa S) (qb S) (qc S) P.a P.c P.b P.d) (bil (qa S) (qb S) (qc S) P.b P.d P.b P.d) → ∃ s ∈ near, ∀ x ∈ S, k (M.by_ s (seen P x)) = true) :
    ∃ m : M, f_standard_group [.list (S.map M.D6)] = some (.sh (.tuple [.str kd, m.D6])) ∧ m.det = 1 ∧ m.bd 1602 ∧ (S.all fun x => k (M.by_ m x)) = true := by
  have ef := e_form_of h (by omega) (by omega)
  obtain ⟨P, es, hP, bP, hr⟩ := e_settle g h hn hl
  obtain ⟨s, hs, hall⟩ := hm P hP hr
  have hn0 : s ∈ near.filter fun s => S.all fun x => k (M.by_ s (seen P x)) := List.mem_filter.mpr ⟨hs, List.all_eq_true.mpr hall⟩
  obtain ⟨s0, h0⟩ : ∃ s0, (near.filter fun s => S.all fun x => k (M.by_ s (seen P x)))[0]? = some s0 := by
    cases hc : near.filter fun s => S.all fun x => k (M.by_ s (seen P x)) with
    | nil => rw [hc] at hn0; cases hn0
    | cons a l => exact ⟨a, rfl⟩
  have hm0 := List.mem_filter.mp (List.mem_of_getElem? h0)
  have ln := lc_near K h (by omega) (by omega) hP bP none near fun t ht => ⟨near_bd t ht, near_det t ht⟩
  have hat : atI ((near.filter fun s => S.all fun x => k (M.by_ s (seen P x))).map fun s => (s * P.inv).D6) 0 = some (s0 * P.inv).D6 := by
    rw [show (0 : Int) = ((0 : Nat) : Int) from rfl, atI_nat', List.getElem?_map, h0]
    rfl
  refine ⟨s0 * P.inv, ?_, by rw [M.det_mul, M.det_inv, near_det _ hm0.1, hP]; rfl, (near_bd _ hm0.1).mul bP.inv |>.mono (by decide), ?_⟩
  · have hlen : near.length = 5 := rfl
    have d3 : (0 : Int) < 3 := by decide
    generalize (near.filter fun s => S.all fun x => k (M.by_ s (seen P x))).map (fun s => (s * P.inv).D6) = F at *
    have e3 : ((S.length : Int) % 3 = 0) ↔ S.length % 3 = 0 := by omega
    rcases hk with ⟨rfl, h3⟩ | ⟨rfl, h3⟩
    · have h3' := e3.mpr h3
      simp [f_standard_group, b_standard_group, h3', ef, es, near_D, wipeD, hlen, ln, hat]
    · have h3' : ¬ ((S.length : Int) % 3 = 0) := fun z => h3 (e3.mp z)
      simp [f_standard_group, b_standard_group, h3', ef, es, near_D, wipeD, hlen, ln, hat]
  · have := hm0.2
    rw [← this]
    congr 1
    funext x
    rw [by_seen]
/-- the paper of a group -/
theorem e_standard {n : Nat} {S : List M} (g : Grp S) (h : ∀ x ∈ S, x.bd n) (hn : n ≤ 140) (hl : S.length ≤ 12) :
    ∃ (kd : Str) (k : M → Bool) (m : M), Kn kd k ∧ f_standard_group [.list (S.map M.D6)] = some (.sh (.tuple [.str kd, m.D6])) ∧ m.det = 1 ∧ m.bd 1602 ∧ (S.all fun x => k (M.by_ m x)) = true ∧
      ((S.any third = true ∧ kd = "hexagon" ∧ S.length % 3 = 0 ∧ (S.length = 3 ∨ S.length = 6 ∨ S.length = 12)) ∨ (S.any third = false ∧ kd = "square" ∧ ¬ S.length % 3 = 0 ∧ (S.length = 1 ∨ S.length = 2 ∨ S.length = 4 ∨ S.length = 8))) := by
  obtain ⟨b1, b2, b3⟩ := q_bd h (by omega)
  obtain ⟨P, _, hP, _, hr⟩ := e_settle g h hn hl
  rcases main g hP hr with ⟨t, c, _⟩ | ⟨t, c, _⟩
  · have h3 : S.length % 3 = 0 := by omega
    obtain ⟨m, e1, e2, e3, e4⟩ := e_standard_of kn_H g h hn hl (Or.inl ⟨rfl, h3⟩) fun P' hP' hr' => by
      rcases main g hP' hr' with ⟨_, _, w⟩ | ⟨t', _, _⟩
      · exact w
      · rw [t] at t'; cases t'
    exact ⟨"hexagon", kH, m, kn_H, e1, e2, e3, e4, Or.inl ⟨t, rfl, h3, c⟩⟩
  · have h3 : ¬ S.length % 3 = 0 := by omega
    obtain ⟨m, e1, e2, e3, e4⟩ := e_standard_of kn_S g h hn hl (Or.inr ⟨rfl, h3⟩) fun P' hP' hr' => by
      rcases main g hP' hr' with ⟨t', _, _⟩ | ⟨_, _, w⟩
      · rw [t] at t'; cases t'
      · exact w
    exact ⟨"square", kS, m, kn_S, e1, e2, e3, e4, Or.inr ⟨t, rfl, h3, c⟩⟩
theorem rgt_ok {kd : Str} {k : M → Bool} (K : Kn kd k) {S : List M} {m : M} (hd : m.det = 1) (h : (S.all fun x => k (M.by_ m x)) = true) : rgt S (.str kd) m.D6 = true := by
  have hf : fit S k m.D6 = true := by
    unfold fit
    rw [mv6_M hd]
    exact h
  rcases K.own with ⟨rfl, rfl⟩ | ⟨rfl, rfl⟩
  · simp [rgt, isS, hf]
  · simp [rgt, isS, hf]
end Lk77
set_option maxRecDepth 100000
set_option maxHeartbeats 1000000
namespace Lk77
open PySem L2 F3 Gr
/-! ### in a list of turns -/
theorem any_k {kk : M → List Int} (inj : ∀ x y, kk x = kk y → x = y) (x : M) : ∀ S : List M, (S.map fun m => tI (kk m)).any (fun z => PyData.eqv z (tI (kk x))) = decide (x ∈ S)
  | [] => by simp
  | m :: S => by
    rw [List.map_cons, List.any_cons, any_k inj x S, eqv_tI, Bool.eq_iff_iff]
    simp only [Bool.or_eq_true, decide_eq_true_eq, List.mem_cons]
    exact or_congr_left ⟨fun h => (inj _ _ h).symm, fun h => by rw [h]⟩
theorem k6_inj {x y : M} (h : k6 x = k6 y) : x = y := by
  simp only [k6, List.cons.injEq, and_true] at h
  exact M.ext' h.1 h.2.1 h.2.2.1 h.2.2.2
theorem sp_k {kk : M → List Int} (x : M) : SeqAt.shaped (tI (kk x)) = true := sp_tupInts _
theorem in_k {kk : M → List Int} (inj : ∀ x y, kk x = kk y → x = y) (x : M) (S : List M) : inR true (.sh (tI (kk x))) (.bo (S.map fun m => tI (kk m))) = some (.sh (.bool (!decide (x ∈ S)))) := by
  have h1 : SeqAt.shaped (.list (S.map fun m => tI (kk m))) = true := by
    have := sp_tIs (S.map kk)
    rw [List.map_map] at this
    exact this
  simp only [inR, seq_b, Res.dat, sp_k, h1, and_self, if_true, any_k inj]
theorem in_D (x : M) (S : List M) : inR true (.sh x.D) (.bo (S.map M.D)) = some (.sh (.bool (!decide (x ∈ S)))) := in_k (kk := k4) (fun _ _ => k4_inj) x S
theorem in_D6 (x : M) (S : List M) : inR true (.sh x.D6) (.bo (S.map M.D6)) = some (.sh (.bool (!decide (x ∈ S)))) := in_k (kk := k6) (fun _ _ => k6_inj) x S
theorem addNew_len (f : List M) (p : M) : (addNew f p).length ≤ f.length + 1 := by
  unfold addNew
  split
  · omega
  · simp
theorem addNew_at {f : List M} {p x : M} {k : Nat} (h : f[k]? = some x) : (addNew f p)[k]? = some x := by
  unfold addNew
  split
  · exact h
  · rw [List.getElem?_append_left (List.getElem?_eq_some_iff.mp h).1]
    exact h
/-! ### the law's list -/
theorem closed_in {n m : Nat} (q0 : Option Res) (k : Nat) {x : M} (hx : x.bd m) (hn : n + m < 800000) : ∀ (ms f : List M), (∀ y ∈ ms, y.bd n) → f[k]? = some x → f.length + ms.length ≤ 1000 →
    forD (gNm 3) l__law_closed_1 (ms.map M.D) [q0, some (.bo (f.map M.D)), some (.sh (.int (k : Int))), none, none] = some (.nx [q0, some (.bo ((bst ms f x).map M.D)), some (.sh (.int (k : Int))), none, none])
  | [], f, _, _, _ => rfl
  | y :: ms, f, hb, hk, hl => by
    rw [List.length_cons] at hl
    have al := addNew_len f (y * x)
    have ih := closed_in q0 k hx hn ms (addNew f (y * x)) (fun z hz => hb z (List.mem_cons_of_mem _ hz)) (addNew_at hk) (by omega)
    have et := e_law_times (hb y List.mem_cons_self) hx (by omega)
    have hi := in_D (y * x) f
    have hk' : (f.map M.D)[k]? = some x.D := by rw [List.getElem?_map, hk]; rfl
    rw [List.map_cons, forD]
    show _ = some (Out.nx [q0, some (.bo ((bst ms (addNew f (y * x)) x).map M.D)), some (.sh (.int (k : Int))), none, none])
    rw [← ih]
    by_cases hm : y * x ∈ f
    · have ea : addNew f (y * x) = f := by unfold addNew; rw [if_pos hm]
      rw [decide_eq_true hm] at hi
      rw [ea]
      simp [l__law_closed_1, hk', et, hi]
    · have ea : addNew f (y * x) = f ++ [y * x] := by unfold addNew; rw [if_neg hm]
      rw [decide_eq_false hm] at hi
      have hl' : f.length < 1000000 := by omega
      rw [ea]
      simp [l__law_closed_1, hk', et, hi, sApp_run, hl']
theorem law_bd {ms : List M} {b : Nat} (hm : ∀ m ∈ ms, m.bd b) : ∀ n, ∀ x ∈ law ms n, x.bd (1 + n * (b + 1))
  | 0, x, h => by
    rw [List.mem_singleton.mp h]
    exact one_bd.mono (by omega)
  | n + 1, x, h => by
    have ih := law_bd hm n
    have e : 1 + (n + 1) * (b + 1) = b + (1 + n * (b + 1)) + 1 := by rw [Nat.succ_mul]; omega
    rw [e]
    change x ∈ (if n < (law ms n).length ∧ (law ms n).length < 14 then stp ms (law ms n) n else law ms n) at h
    split at h
    · unfold stp at h
      split at h
      · rename_i y hy
        exact bst_all (p := fun x => x.bd (b + (1 + n * (b + 1)) + 1)) ms _ (fun y hy => (ih y hy).mono (by omega)) (fun m hm' => (hm m hm').mul (ih y (List.mem_of_getElem? hy))) x h
      · exact (ih x h).mono (by omega)
    · exact (ih x h).mono (by omega)
theorem e_closed {ms : List M} {b : Nat} (hb : ∀ m ∈ ms, m.bd b) (hn : b ≤ 10000) (hl : ms.length ≤ 4) : f__law_closed [.list (ms.map M.D)] = some (.fr ((law ms 13).map M.D)) := by
  obtain ⟨ρ', e, rfl⟩ := for_inv (g := gNm 2) (b := l__law_closed_2) (fun j ρ => ρ = [some (.sh (.list (ms.map M.D))), some (.bo ((law ms j).map M.D)), none, none, none]) (rangeD 0 1 13) 0 [some (.sh (.list (ms.map M.D))), some (.bo ((law ms 0).map M.D)), none, none, none]
    (fun k d ρ hk hI => by
      obtain ⟨hk13, rfl⟩ := rng_get hk
      subst hI
      rw [Nat.zero_add] at *
      refine ⟨_, ?_, rfl⟩
      have ll := law_len ms hl k
      show _ = some (Out.nx [_, some (.bo ((if k < (law ms k).length ∧ (law ms k).length < 14 then stp ms (law ms k) k else law ms k).map M.D)), none, none, none])
      by_cases h1 : k < (law ms k).length
      · by_cases h2 : (law ms k).length < 14
        · obtain ⟨x, hx⟩ : ∃ x, (law ms k)[k]? = some x := ⟨(law ms k)[k], List.getElem?_eq_getElem h1⟩
          have bx := law_bd hb k x (List.mem_of_getElem? hx)
          have hkb : k * (b + 1) ≤ 13 * 10001 := Nat.mul_le_mul (by omega) (by omega)
          have ec := closed_in (some (.sh (.list (ms.map M.D)))) k bx (by omega) ms (law ms k) hb hx (by omega)
          have hs : stp ms (law ms k) k = bst ms (law ms k) x := by unfold stp; rw [hx]
          rw [if_pos ⟨h1, h2⟩, hs]
          have h1' : (k : Int) < ((law ms k).length : Int) := by omega
          have h2' : ((law ms k).length : Int) < 14 := by omega
          simp [l__law_closed_2, h1, h2, h1', h2', ec]
        · rw [if_neg (fun z => h2 z.2)]
          have h1' : (k : Int) < ((law ms k).length : Int) := by omega
          have h2' : ¬ ((law ms k).length : Int) < 14 := by omega
          simp [l__law_closed_2, h1, h2, h1', h2']
      · rw [if_neg (fun z => h1 z.1)]
        have h1' : ¬ (k : Int) < ((law ms k).length : Int) := by omega
        simp [l__law_closed_2, h1, h1']) rfl
  rw [rangeD_len] at e
  have o : [PyData.tuple [.int 1, .int 0, .int 0, .int 1]] = (law ms 0).map M.D := rfl
  have r13 : rOk 13 := rOk_nat (n := 13) (by decide)
  simp [f__law_closed, b__law_closed, o, r13, e, show (law ms 0).length = 1 from rfl]
end Lk77
set_option maxRecDepth 100000
set_option maxHeartbeats 1000000
namespace Lk77
open PySem L2 F3 Gr
theorem group_in {n m : Nat} (q0 : Option Res) (k : Nat) {x : M} (hx : x.bd m) (hn : n + m < 800000) : ∀ (ms f : List M), (∀ y ∈ ms, y.bd n) → f[k]? = some x → f.length + ms.length ≤ 1000 →
    forD (gNm 3) l_group_of_1 (ms.map M.D6) [q0, some (.bo (f.map M.D6)), some (.sh (.int (k : Int))), none, none] = some (Out.nx [q0, some (.bo ((bst ms f x).map M.D6)), some (.sh (.int (k : Int))), none, none])
  | [], f, _, _, _ => rfl
  | y :: ms, f, hb, hk, hl => by
    rw [List.length_cons] at hl
    have al := addNew_len f (y * x)
    have ih := group_in q0 k hx hn ms (addNew f (y * x)) (fun z hz => hb z (List.mem_cons_of_mem _ hz)) (addNew_at hk) (by omega)
    have et := e_after hx (hb y List.mem_cons_self) (by omega)
    have hi := in_D6 (y * x) f
    have hk' : (f.map M.D6)[k]? = some x.D6 := by rw [List.getElem?_map, hk]; rfl
    rw [List.map_cons, forD]
    show _ = some (Out.nx [q0, some (.bo ((bst ms (addNew f (y * x)) x).map M.D6)), some (.sh (.int (k : Int))), none, none])
    rw [← ih]
    by_cases hm : y * x ∈ f
    · have ea : addNew f (y * x) = f := by unfold addNew; rw [if_pos hm]
      rw [decide_eq_true hm] at hi
      rw [ea]
      simp [l_group_of_1, hk', et, hi]
    · have ea : addNew f (y * x) = f ++ [y * x] := by unfold addNew; rw [if_neg hm]
      rw [decide_eq_false hm] at hi
      have hl' : f.length < 1000000 := by omega
      rw [ea]
      simp [l_group_of_1, hk', et, hi, sApp_run, hl']
theorem e_group {ms : List M} {b : Nat} (hb : ∀ m ∈ ms, m.bd b) (hn : b ≤ 10000) (hl : ms.length ≤ 4) :
    ∃ n, n ≤ 12 ∧ (∀ k, k < n → Go ms k) ∧ ¬ Go ms n ∧ f_group_of [.list (ms.map M.D6)] = if (bfs ms n).length ≤ 12 then some (.ok (.fr ((sM (bfs ms n)).map M.D6))) else some (.ex "EndlessGroup") := by
  obtain ⟨ρ', e, n, n12, hgo, hst, hlen, rfl⟩ := while_inv (k := w_group_of_3) (b := l_group_of_2) (fun j ρ => ∃ n, j = 13 - n ∧ n ≤ 13 ∧ (∀ k, k < n → Go ms k) ∧ (bfs ms n).length ≤ 16 ∧ ρ = [some (.sh (.list (ms.map M.D6))), some (.bo ((bfs ms n).map M.D6)), some (.sh (.int (n : Int))), none, none])
    (fun ρ => ∃ n, n ≤ 12 ∧ (∀ k, k < n → Go ms k) ∧ ¬ Go ms n ∧ (bfs ms n).length ≤ 16 ∧ ρ = [some (.sh (.list (ms.map M.D6))), some (.bo ((bfs ms n).map M.D6)), some (.sh (.int (n : Int))), none, none])
    (fun j ρ hI => by
      obtain ⟨n, rfl, n13, hgo, hlen, rfl⟩ := hI
      have n12 : n ≤ 12 := by
        rcases Nat.lt_or_ge n 13 with h | h
        · omega
        · have hn13 : n = 13 := by omega
          have := hgo 12 (by omega)
          have h1 := this.1
          have h2 := this.2
          omega
      by_cases hg : Go ms n
      · obtain ⟨g1, g2⟩ := hg
        have g1' : (n : Int) < ((bfs ms n).length : Int) := by omega
        have g2' : ((bfs ms n).length : Int) ≤ 12 := by omega
        obtain ⟨x, hx⟩ : ∃ x, (bfs ms n)[n]? = some x := ⟨(bfs ms n)[n], List.getElem?_eq_getElem g1⟩
        have bx := Gen.bd hb n x (List.mem_of_getElem? hx)
        have hkb : n * (b + 1) ≤ 13 * 10001 := Nat.mul_le_mul (by omega) (by omega)
        have ec := group_in (some (.sh (.list (ms.map M.D6)))) n bx (by omega) ms (bfs ms n) hb hx (by omega)
        have hs : bfs ms (n + 1) = bst ms (bfs ms n) x := by show stp ms (bfs ms n) n = _; unfold stp; rw [hx]
        have hbl := bst_len x ms (bfs ms n)
        refine Or.inr ⟨by simp [w_group_of_3, g1', g2'], [some (.sh (.list (ms.map M.D6))), some (.bo ((bfs ms (n + 1)).map M.D6)), some (.sh (.int ((n + 1 : Nat) : Int))), none, none], ?_, 13 - (n + 1), by omega, n + 1, rfl, by omega, fun k hk => ?_, by rw [hs]; omega, rfl⟩
        · rw [hs]
          simp [l_group_of_2, ec]
        · by_cases e : k = n
          · rw [e]; exact ⟨g1, g2⟩
          · exact hgo k (by omega)
      · refine Or.inl ⟨?_, n, n12, hgo, hg, hlen, rfl⟩
        by_cases g1 : n < (bfs ms n).length
        · have g1' : (n : Int) < ((bfs ms n).length : Int) := by omega
          have g2 : ¬ (bfs ms n).length ≤ 12 := fun z => hg ⟨g1, z⟩
          have g2' : ¬ ((bfs ms n).length : Int) ≤ 12 := by omega
          simp [w_group_of_3, g1', g2']
        · have g1' : ¬ (n : Int) < ((bfs ms n).length : Int) := by omega
          simp [w_group_of_3, g1']) 13 [some (.sh (.list (ms.map M.D6))), some (.bo ((bfs ms 0).map M.D6)), some (.sh (.int ((0 : Nat) : Int))), none, none] ⟨0, rfl, by omega, fun k hk => absurd hk (Nat.not_lt_zero _), by show (1 : Nat) ≤ 16; decide, rfl⟩
  refine ⟨n, n12, hgo, hst, ?_⟩
  have o : [c_REST] = (bfs ms 0).map M.D6 := rfl
  have s1 := shape_D6 (bfs ms n)
  have s2 := srt_D6 (bfs ms n)
  have z0 : ((0 : Nat) : Int) = 0 := rfl
  rw [z0] at e
  by_cases h12 : (bfs ms n).length ≤ 12
  · rw [if_pos h12]
    have h12' : ¬ (12 : Int) < ((bfs ms n).length : Int) := by omega
    simp [f_group_of, b_group_of, fnDX, o, show (bfs ms 0).length = 1 from rfl, e, h12', sortR, s1, s2]
  · rw [if_neg h12]
    have h12' : (12 : Int) < ((bfs ms n).length : Int) := by omega
    simp [f_group_of, b_group_of, fnDX, o, show (bfs ms 0).length = 1 from rfl, e, h12']
end Lk77
set_option maxRecDepth 100000
set_option maxHeartbeats 1000000
namespace Lk77
open PySem L2 F3 Gr
theorem group_two {ms : List M} {b : Nat} (hd : ∀ m ∈ ms, m.det = 1 ∨ m.det = -1) (hb : ∀ m ∈ ms, m.bd b) (hn : b ≤ 10000) (hl : ms.length ≤ 4) :
    (∃ S, Grp S ∧ S.length ≤ 12 ∧ (∀ x ∈ S, x.bd (1 + 12 * (b + 1))) ∧ law ms 13 = S ∧ f_group_of [.list (ms.map M.D6)] = some (.ok (.fr ((sM S).map M.D6)))) ∨
    (12 < (law ms 13).length ∧ f_group_of [.list (ms.map M.D6)] = some (.ex "EndlessGroup")) := by
  obtain ⟨n, n12, hgo, hst, e⟩ := e_group hb hn hl
  rcases two_ways ms hgo hst n12 with ⟨h1, h2, h3⟩ | ⟨h1, h2⟩
  · rw [if_pos h1] at e
    refine Or.inl ⟨bfs ms n, grp_bfs hd h3, h1, fun x hx => (Gen.bd hb n x hx).mono ?_, h2, e⟩
    have : n * (b + 1) ≤ 12 * (b + 1) := Nat.mul_le_mul_right _ n12
    omega
  · rw [if_neg (by omega)] at e
    exact Or.inr ⟨h2, e⟩
theorem Grp.perm {S T : List M} (g : Grp S) (h : T.Perm S) : Grp T :=
  ⟨h.nodup_iff.mpr g.nd, h.mem_iff.mpr g.one, fun x hx y hy => h.mem_iff.mpr (g.mul x (h.mem_iff.mp hx) y (h.mem_iff.mp hy)), fun x hx => g.det x (h.mem_iff.mp hx)⟩
/-! ### sameness -/
theorem same_loop {n : Nat} {ds : List PyData} {d : PyData} (q0 q1 : Option Res) (hq0 : ∀ k : Nat, k < ds.length → eBin ixR (eVar 0) (eVar 2) [q0, q1, some (.sh (.int (k : Int)))] = (ds[k]?).map .sh) (hq1 : ∀ k : Nat, k < ds.length → eBin ixR (eVar 1) (eVar 2) [q0, q1, some (.sh (.int (k : Int)))] = (ds[k]?).map .sh)
    (h : ∀ d ∈ ds, f__law_same n [d, d] = some (.sh (.bool true))) :
    forD (gNm 2) (sFo [2] (sIf (tNotD (tOf (eFn (f__law_same n) (aCons (eBin ixR (eVar 0) (eVar 2)) (aCons (eBin ixR (eVar 1) (eVar 2)) aNil))))) (sRet (eC (.bool false))) sPass)) (rangeD 0 1 ds.length) [q0, q1, none] = some (.nx [q0, q1, none]) := by
  have still : ∀ (es : List PyData), (∀ e ∈ es, (gNm 2 e [q0, q1, none]).bind (sFo [2] (sIf (tNotD (tOf (eFn (f__law_same n) (aCons (eBin ixR (eVar 0) (eVar 2)) (aCons (eBin ixR (eVar 1) (eVar 2)) aNil))))) (sRet (eC (.bool false))) sPass)) = some (.nx [q0, q1, none])) → forD (gNm 2) (sFo [2] (sIf (tNotD (tOf (eFn (f__law_same n) (aCons (eBin ixR (eVar 0) (eVar 2)) (aCons (eBin ixR (eVar 1) (eVar 2)) aNil))))) (sRet (eC (.bool false))) sPass)) es [q0, q1, none] = some (.nx [q0, q1, none]) := by
    intro es
    induction es with
    | nil => intro _; rfl
    | cons e es ih =>
      intro he
      obtain ⟨ρ1, e1, e2⟩ := bind_some (he e List.mem_cons_self)
      rw [forD, e1, Option.bind_some, e2, Option.bind_some]
      exact ih fun x hx => he x (List.mem_cons_of_mem _ hx)
  refine still _ fun e he => ?_
  obtain ⟨j, hj⟩ := List.getElem?_of_mem he
  obtain ⟨hj2, rfl⟩ := rng_get hj
  have h0 := hq0 j hj2
  have h1 := hq1 j hj2
  obtain ⟨x, hx⟩ : ∃ x, ds[j]? = some x := ⟨ds[j], List.getElem?_eq_getElem hj2⟩
  have hs := h x (List.mem_of_getElem? hx)
  rw [hx] at h0 h1
  simp only [Option.map_some] at h0 h1
  simp only [gNm, Option.bind_some, List.set, sFo_eq, sIf, tNotD, tOf, eFn, aCons, aNil, h0, h1]
  simp [hs]
end Lk77
set_option maxRecDepth 100000
set_option maxHeartbeats 1000000
namespace Lk77
open PySem L2 F3 Gr
theorem e_same_refl : ∀ (n : Nat) (d : PyData), Gd d → d.depth < n → f__law_same n [d, d] = some (.sh (.bool true))
  | 0, _, _, h => absurd h (Nat.not_lt_zero _)
  | n + 1, d, g, h => by
    rw [f__law_same]
    cases d with
    | none => simp
    | bool p => cases p <;> simp [eqD, PyData.eqv]
    | int i =>
      have e := e_law_is_number (.int i)
      simp [e, isNum]
    | str x => simp
    | list ds =>
      have hl : ds.length ≤ 1000000 := by
        have := g.few; have := cnL_len ds; simp only [cn_l] at *; omega
      have r := rOk_nat hl
      have lp := same_loop (n := n) (ds := ds) (d := .none) (some (.sh (.list ds))) (some (.sh (.list ds))) (fun k hk => by rw [List.getElem?_eq_getElem hk]; simp [List.getElem?_eq_getElem hk]) (fun k hk => by rw [List.getElem?_eq_getElem hk]; simp [List.getElem?_eq_getElem hk]) fun e he => by
        have h1 := dpA_mem he
        exact e_same_refl n e (g.item he) (by simp only [dp_l] at h; omega)
      simp [r, lp]
    | tuple ds =>
      have hl : ds.length ≤ 1000000 := by
        have := g.few; have := cnL_len ds; simp only [cn_t] at *; omega
      have r := rOk_nat hl
      have lp := same_loop (n := n) (ds := ds) (d := .none) (some (.sh (.tuple ds))) (some (.sh (.tuple ds))) (fun k hk => by rw [List.getElem?_eq_getElem hk]; simp [List.getElem?_eq_getElem hk]) (fun k hk => by rw [List.getElem?_eq_getElem hk]; simp [List.getElem?_eq_getElem hk]) fun e he => by
        have h1 := dpA_mem he
        exact e_same_refl n e (g.itemT he) (by simp only [dp_t] at h; omega)
      simp [r, lp]
    | dict kvs => exact absurd g.ok (by simp [okB])
end Lk77
set_option maxRecDepth 100000
set_option maxHeartbeats 1000000
namespace Lk77
open PySem L2 F3 Gr
theorem seq_run {a b : Rh → Option Out} {ρ ρ' : Rh} (h : a ρ = some (.nx ρ')) : sSeq a b ρ = b ρ' := by
  rw [sSeq_eq, h]
  rfl
theorem seq_ret {a b : Rh → Option Out} {ρ : Rh} {r : Res} (h : a ρ = some (.rt r)) : sSeq a b ρ = some (.rt r) := by
  rw [sSeq_eq, h]
  rfl
theorem sd_D6 {m : M} (h : m.bd IB) : Sd 7 1 m.D6 := by
  obtain ⟨h1, h2, h3, h4⟩ := h
  have z0 : F3.Bd IB 0 := (show F3.Bd 3 0 by decide).mono (by decide)
  exact ⟨by simp [M.D6, h1, h2, h3, h4, z0], by simp [M.D6], by simp [M.D6]⟩
theorem ro_D6 : ∀ T : List M, (∀ x ∈ T, x.bd IB) → Ro (7 * T.length) 1 (T.map M.D6)
  | [], _ => ⟨by simp, by simp, by simp⟩
  | x :: T, h => by
    have r := Ro.cons (sd_D6 (h x List.mem_cons_self)) (ro_D6 T fun y hy => h y (List.mem_cons_of_mem _ hy))
    exact r.mono (by rw [List.length_cons]; omega) (Nat.le_refl _)
theorem gd_D6s {T : List M} (h : ∀ x ∈ T, x.bd IB) (hl : T.length ≤ 12) : Gd (.list (T.map M.D6)) := (ro_D6 T h).lst.gd (by omega) (by decide)
theorem gd_D6 {m : M} (h : m.bd IB) : Gd m.D6 := (sd_D6 h).gd (by decide) (by decide)
theorem gd_str (z : String) (hz : (Str.ofString z).length ≤ 100) : Gd (.str (Str.ofString z)) := (sd_s (strOk_of z) (by omega) (by omega) 0 : Sd 101 0 _).gd (by decide) (by decide)
theorem lc_plain {q : Rh} {i : Nat} (hi : i < q.length) (T : List M) : lcD (gNm i) tYesD (eFn f__law_plain (aCons (eVar i) aNil)) q (T.map M.D) = some (T.map M.D6) := by
  refine lc_M T fun x _ => ?_
  have hv : (q.set i (some (.sh x.D)))[i]? = some (some (.sh x.D)) := by rw [List.getElem?_set_self hi]
  have e := e_plain (n := 0) (x := x)
  simp only [eFn, aCons, aNil, eVar_eq, hv, Option.bind_some, id]
  simp [e]
theorem eq_D6 (T : List M) : eqD (.list (T.map M.D6)) (.list (T.map M.D6)) = some true := by
  have sp : SeqAt.shaped (.list (T.map M.D6)) = true := by
    have := sp_tIs (T.map k6)
    rw [List.map_map] at this
    exact this
  have ev : PyData.eqv (.list (T.map M.D6)) (.list (T.map M.D6)) = true := by
    have := eqv_tIs (T.map k6) (T.map k6)
    rw [List.map_map] at this
    exact this.trans (decide_eq_true rfl)
  unfold eqD
  simp only [sp, and_self, if_true, ev]
theorem bk_D (x : M) : PyData.tuple [.int (x.det * x.d), .int (-x.det * x.b), .int (-x.det * x.c), .int (x.det * x.a)] = (vni x).D := rfl
theorem in_Dl (x : M) (S : List M) : inR true (.sh x.D) (.sh (.list (S.map M.D))) = some (.sh (.bool (!decide (x ∈ S)))) := by
  have := in_D x S
  simpa only [inR, seq_l, seq_b] using this
end Lk77
set_option maxRecDepth 100000
set_option maxHeartbeats 1000000
namespace Lk77
open PySem L2 F3 Gr
theorem for_still {g : PyData → Rh → Option Rh} {b : Rh → Option Out} {ρ : Rh} : ∀ ds : List PyData, (∀ d ∈ ds, (g d ρ).bind b = some (.nx ρ)) → forD g b ds ρ = some (.nx ρ)
  | [], _ => rfl
  | d :: ds, h => by
    obtain ⟨ρ1, e1, e2⟩ := bind_some (h d List.mem_cons_self)
    rw [forD, e1, Option.bind_some, e2, Option.bind_some]
    exact for_still ds fun e he => h e (List.mem_cons_of_mem _ he)
theorem lc_out {n : Nat} {one : M} (q : Rh) (S : List M) (bo : one.bd n) (hn : n ≤ 200000) (hq : q.length = 11) (h7 : q[7]? = some (some (.sh one.D))) (h2 : q[2]? = some (some (.sh (.list (S.map M.D))))) :
    ∀ T : List M, (∀ x ∈ T, x.bd n ∧ one * x ∈ S) → lcD (gNm 6) (tOf (eBin (inR true) (eFn f__law_times (aCons (eVar 7) (aCons (eVar 6) aNil))) (eVar 2))) (eVar 6) q (T.map M.D) = some []
  | [], _ => rfl
  | x :: T, h => by
    obtain ⟨bx, hx⟩ := h x List.mem_cons_self
    have ih := lc_out q S bo hn hq h7 h2 T fun y hy => h y (List.mem_cons_of_mem _ hy)
    have e := e_law_times bo bx (by omega)
    have i := in_Dl (one * x) S
    rw [decide_eq_true hx] at i
    have g7 : (q.set 6 (some (.sh x.D)))[7]? = some (some (.sh one.D)) := by rw [List.getElem?_set_ne (by decide), h7]
    have g2 : (q.set 6 (some (.sh x.D)))[2]? = some (some (.sh (.list (S.map M.D)))) := by rw [List.getElem?_set_ne (by decide), h2]
    have g6 : (q.set 6 (some (.sh x.D)))[6]? = some (some (.sh x.D)) := by rw [List.getElem?_set_self (by omega)]
    rw [List.map_cons, lcD]
    simp [g7, g2, g6, e, i, ih]
theorem told_step {n : Nat} {S : List M} {one : M} (g : Grp S) (ho : one ∈ S) (hb : ∀ x ∈ S, x.bd n) (hn : n ≤ 200000) (hl : S.length ≤ 12) (q0 q1 q3 q4 q5 q6 : Option Res) (h6 : q6 = none) :
    ((gNm 7 one.D [q0, q1, some (.sh (.list (S.map M.D))), q3, q4, q5, q6, none, none, none, none]).bind l__law_told_1) = some (.nx [q0, q1, some (.sh (.list (S.map M.D))), q3, q4, q5, q6, none, none, none, none]) := by
  subst h6
  have bo := hb one ho
  obtain ⟨b1, b2, b3, b4⟩ := bo
  obtain ⟨m1, m2, m3, m4, m5, m6, m7, m8⟩ := mulOks (x := one) (y := one) (hb one ho) (hb one ho) (by omega)
  have dt := g.det one ho
  obtain ⟨st, hst⟩ : ∃ st : Int, st = one.a * one.d - one.b * one.c := ⟨_, rfl⟩
  have st1 : st = 1 ∨ st = -1 := by rw [hst]; exact dt
  have bs : F3.Bd 3 st := by rcases st1 with h | h <;> rw [h] <;> decide
  have k1 := mulOk_of bs b4 (by omega)
  have k2 := mulOk_of bs.neg b2 (by omega)
  have k3 := mulOk_of bs.neg b3 (by omega)
  have k4 := mulOk_of bs b1 (by omega)
  have a1 := mulOk_of b1 b4 (by omega)
  have a2 := mulOk_of b2 b3 (by omega)
  have iv := g.inv ho
  have bk : PyData.tuple [.int (st * one.d), .int (-st * one.b), .int (-st * one.c), .int (st * one.a)] = (vni one).D := by rw [hst]; rfl
  have i := in_Dl (vni one) S
  rw [decide_eq_true iv] at i
  have hD : one.D = .tuple [.int one.a, .int one.b, .int one.c, .int one.d] := rfl
  have lo := lc_out (n := n) (one := one) [q0, q1, some (.sh (.list (S.map M.D))), q3, q4, q5, none, some (.sh one.D), some (.sh (.int st)), some (.sh (vni one).D), none] S (hb one ho) hn rfl rfl rfl S fun x hx => ⟨hb x hx, g.mul one ho x hx⟩
  have x0 : ixR (.sh one.D) (.sh (.int 0)) = some (.sh (.int one.a)) := by simp [M.D]
  have x1 : ixR (.sh one.D) (.sh (.int 1)) = some (.sh (.int one.b)) := by simp [M.D]
  have x2 : ixR (.sh one.D) (.sh (.int 2)) = some (.sh (.int one.c)) := by simp [M.D]
  have x3 : ixR (.sh one.D) (.sh (.int 3)) = some (.sh (.int one.d)) := by simp [M.D]
  have l2 : S.length ≤ 1000000 := by omega
  simp [l__law_told_1, x0, x1, x2, x3, a1, a2, ← hst, k1, k2, k3, k4, bk, i, lo, l2, wipeD]

theorem told_B {ms : List M} {b : Nat} (hd : ∀ m ∈ ms, m.det = 1 ∨ m.det = -1) (hb : ∀ m ∈ ms, m.bd b) (hn : b ≤ 10000) (hl : ms.length ≤ 4) (h13 : 12 < (law ms 13).length) (eg : f_group_of [.list (ms.map M.D6)] = some (.ex "EndlessGroup")) : f__law_told [.list (ms.map M.D)] = some (.sh (.bool true)) := by
  have ec := e_closed hb hn hl
  have l1 : ms.length ≤ 1000000 := by omega
  have h12 : (12 : Int) < ((law ms 13).length : Int) := by omega
  have eq := eq_D6 ms
  have s0 : (sSet 1 (eLc (itSeq (eVar 0)) (gNm 10) tYesD (eFn f__law_plain (aCons (eVar 10) aNil)) [10])) [some (.sh (.list (ms.map M.D))), none, none, none, none, none, none, none, none, none, none] = some (.nx [some (.sh (.list (ms.map M.D))), some (.bo (ms.map M.D6)), none, none, none, none, none, none, none, none, none]) := by
    have lp := lc_plain (q := [some (.sh (.list (ms.map M.D))), none, none, none, none, none, none, none, none, none, none]) (i := 10) (show 10 < 11 by decide) ms
    simp [lp, l1, wipeD]
  have s1 : (sSet 2 (eFn f__law_closed (aCons (eVar 0) aNil))) [some (.sh (.list (ms.map M.D))), some (.bo (ms.map M.D6)), none, none, none, none, none, none, none, none, none] = some (.nx [some (.sh (.list (ms.map M.D))), some (.bo (ms.map M.D6)), some (.bo ((law ms 13).map M.D)), none, none, none, none, none, none, none, none]) := by
    simp [ec]
  have s2 : (sSet 3 (eC .none)) [some (.sh (.list (ms.map M.D))), some (.bo (ms.map M.D6)), some (.bo ((law ms 13).map M.D)), none, none, none, none, none, none, none, none] = some (.nx [some (.sh (.list (ms.map M.D))), some (.bo (ms.map M.D6)), some (.bo ((law ms 13).map M.D)), some (.sh .none), none, none, none, none, none, none, none]) := by
    simp
  have s3 : (sSet 4 (eC (.bool false))) [some (.sh (.list (ms.map M.D))), some (.bo (ms.map M.D6)), some (.bo ((law ms 13).map M.D)), some (.sh .none), none, none, none, none, none, none, none] = some (.nx [some (.sh (.list (ms.map M.D))), some (.bo (ms.map M.D6)), some (.bo ((law ms 13).map M.D)), some (.sh .none), some (.sh (.bool false)), none, none, none, none, none, none]) := by
    simp
  have s4 : (sFrz [1] (sTry "EndlessGroup" 3 5 f_group_of (aCons (eVar 1) aNil)
  (sSeq (sSet 6 (eOrD (eC (.bool false)) (eC (.bool false))))
 (sSet 4 (eAndD (eC (.bool true)) (eAndD (eC (.bool true)) (eNotD (eVar 6)))))))) [some (.sh (.list (ms.map M.D))), some (.bo (ms.map M.D6)), some (.bo ((law ms 13).map M.D)), some (.sh .none), some (.sh (.bool false)), none, none, none, none, none, none] = some (.nx [some (.sh (.list (ms.map M.D))), some (.sh (.list (ms.map M.D6))), some (.bo ((law ms 13).map M.D)), some (.sh .none), some (.sh (.bool true)), none, some (.sh (.bool false)), none, none, none, none]) := by
    simp [sTry, isFree, eg, frz1]
  have s5 : (sIf (tOf (eBin neR (eVar 1) (eLc (itSeq (eVar 0)) (gNm 10) tYesD (eFn f__law_plain (aCons (eVar 10) aNil)) [10])))
  (sRet (eC (.bool false)))
  sPass) [some (.sh (.list (ms.map M.D))), some (.sh (.list (ms.map M.D6))), some (.bo ((law ms 13).map M.D)), some (.sh .none), some (.sh (.bool true)), none, some (.sh (.bool false)), none, none, none, none] = some (.nx [some (.sh (.list (ms.map M.D))), some (.sh (.list (ms.map M.D6))), some (.bo ((law ms 13).map M.D)), some (.sh .none), some (.sh (.bool true)), none, some (.sh (.bool false)), none, none, none, none]) := by
    have lp := lc_plain (q := [some (.sh (.list (ms.map M.D))), some (.sh (.list (ms.map M.D6))), some (.bo ((law ms 13).map M.D)), some (.sh .none), some (.sh (.bool true)), none, some (.sh (.bool false)), none, none, none, none]) (i := 10) (show 10 < 11 by decide) ms
    simp [lp, l1, wipeD, eq]
  have s6 : (sIf (tOf (eBin gtR (eCall (on1 lenR) (aCons (eVar 2) aNil)) (eC (.int 12))))
  (sRet (eAndD (eVar 4) (eBin (isR false) (eVar 3) (eC .none))))
  sPass) [some (.sh (.list (ms.map M.D))), some (.sh (.list (ms.map M.D6))), some (.bo ((law ms 13).map M.D)), some (.sh .none), some (.sh (.bool true)), none, some (.sh (.bool false)), none, none, none, none] = some (.rt (.sh (.bool true))) := by
    simp [h12]
  have e0 : f__law_told [.list (ms.map M.D)] = finD (b__law_told [some (.sh (.list (ms.map M.D))), none, none, none, none, none, none, none, none, none, none]) := fnD_1
  rw [e0, b__law_told, seq_run s0, seq_run s1, seq_run s2, seq_run s3, seq_run s4, seq_run s5, seq_ret s6]
  rfl
theorem told_A {ms S : List M} {b : Nat} (hd : ∀ m ∈ ms, m.det = 1 ∨ m.det = -1) (hb : ∀ m ∈ ms, m.bd b) (hn : b ≤ 130) (hl : ms.length ≤ 4) (hS : S.length ≤ 12) (g : Grp S) (bS : ∀ x ∈ S, x.bd (1 + 12 * (b + 1))) (hL : law ms 13 = S) (eg : f_group_of [.list (ms.map M.D6)] = some (.ok (.fr ((sM S).map M.D6)))) : f__law_told [.list (ms.map M.D)] = some (.sh (.bool true)) := by
  have ec := e_closed hb (by omega) hl
  rw [hL] at ec
  have l1 : ms.length ≤ 1000000 := by omega
  have l2 : S.length ≤ 1000000 := by omega
  have h12 : ¬ ((12 : Int) < (S.length : Int)) := by omega
  have eq := eq_D6 ms
  have s6_ := shape_D6 S
  have r6 := srt_D6 S
  have hlen : (sM S).length = S.length := (sM_perm S).length_eq
  have gd := gd_D6s (T := sM S) (fun x hx => (bS x ((sM_perm S).mem_iff.mp hx)).mono (by unfold IB; omega)) (by omega)
  have sm := e_same_refl 24 _ gd (by have := gd.deep; omega)
  have ego : okD f_group_of [.list (ms.map M.D6)] = some (.fr ((sM S).map M.D6)) := by unfold okD; rw [eg]
  have l3 : S.length < 1000000 := by omega
  have for_cl : ∀ (q0 q1 q3 q4 q5 : Option Res), forD (gNm 7) l__law_told_1 (S.map M.D) [q0, q1, some (.sh (.list (S.map M.D))), q3, q4, q5, none, none, none, none, none] = some (.nx [q0, q1, some (.sh (.list (S.map M.D))), q3, q4, q5, none, none, none, none, none]) := fun q0 q1 q3 q4 q5 => by
    refine for_still _ fun d hd => ?_
    obtain ⟨m, hm, rfl⟩ := List.mem_map.mp hd
    exact told_step g hm bS (by omega) hS q0 q1 q3 q4 q5 none rfl
  have s0 : (sSet 1 (eLc (itSeq (eVar 0)) (gNm 10) tYesD (eFn f__law_plain (aCons (eVar 10) aNil)) [10])) [some (.sh (.list (ms.map M.D))), none, none, none, none, none, none, none, none, none, none] = some (.nx [some (.sh (.list (ms.map M.D))), some (.bo (ms.map M.D6)), none, none, none, none, none, none, none, none, none]) := by
    have lp := lc_plain (q := [some (.sh (.list (ms.map M.D))), none, none, none, none, none, none, none, none, none, none]) (i := 10) (show 10 < 11 by decide) ms
    simp [lp, l1, wipeD]
  have s1 : (sSet 2 (eFn f__law_closed (aCons (eVar 0) aNil))) [some (.sh (.list (ms.map M.D))), some (.bo (ms.map M.D6)), none, none, none, none, none, none, none, none, none] = some (.nx [some (.sh (.list (ms.map M.D))), some (.bo (ms.map M.D6)), some (.bo (S.map M.D)), none, none, none, none, none, none, none, none]) := by
    simp [ec]
  have s2 : (sSet 3 (eC .none)) [some (.sh (.list (ms.map M.D))), some (.bo (ms.map M.D6)), some (.bo (S.map M.D)), none, none, none, none, none, none, none, none] = some (.nx [some (.sh (.list (ms.map M.D))), some (.bo (ms.map M.D6)), some (.bo (S.map M.D)), some (.sh .none), none, none, none, none, none, none, none]) := by
    simp
  have s3 : (sSet 4 (eC (.bool false))) [some (.sh (.list (ms.map M.D))), some (.bo (ms.map M.D6)), some (.bo (S.map M.D)), some (.sh .none), none, none, none, none, none, none, none] = some (.nx [some (.sh (.list (ms.map M.D))), some (.bo (ms.map M.D6)), some (.bo (S.map M.D)), some (.sh .none), some (.sh (.bool false)), none, none, none, none, none, none]) := by
    simp
  have s4 : (sFrz [1] (sTry "EndlessGroup" 3 5 f_group_of (aCons (eVar 1) aNil)
  (sSeq (sSet 6 (eOrD (eC (.bool false)) (eC (.bool false))))
 (sSet 4 (eAndD (eC (.bool true)) (eAndD (eC (.bool true)) (eNotD (eVar 6)))))))) [some (.sh (.list (ms.map M.D))), some (.bo (ms.map M.D6)), some (.bo (S.map M.D)), some (.sh .none), some (.sh (.bool false)), none, none, none, none, none, none] = some (.nx [some (.sh (.list (ms.map M.D))), some (.sh (.list (ms.map M.D6))), some (.bo (S.map M.D)), some (.bo ((sM S).map M.D6)), some (.sh (.bool false)), none, none, none, none, none, none]) := by
    simp [sTry, isFree, eg, frz1]
  have s5 : (sIf (tOf (eBin neR (eVar 1) (eLc (itSeq (eVar 0)) (gNm 10) tYesD (eFn f__law_plain (aCons (eVar 10) aNil)) [10])))
  (sRet (eC (.bool false)))
  sPass) [some (.sh (.list (ms.map M.D))), some (.sh (.list (ms.map M.D6))), some (.bo (S.map M.D)), some (.bo ((sM S).map M.D6)), some (.sh (.bool false)), none, none, none, none, none, none] = some (.nx [some (.sh (.list (ms.map M.D))), some (.sh (.list (ms.map M.D6))), some (.bo (S.map M.D)), some (.bo ((sM S).map M.D6)), some (.sh (.bool false)), none, none, none, none, none, none]) := by
    have lp := lc_plain (q := [some (.sh (.list (ms.map M.D))), some (.sh (.list (ms.map M.D6))), some (.bo (S.map M.D)), some (.bo ((sM S).map M.D6)), some (.sh (.bool false)), none, none, none, none, none, none]) (i := 10) (show 10 < 11 by decide) ms
    simp [lp, l1, wipeD, eq]
  have s6 : (sIf (tOf (eBin gtR (eCall (on1 lenR) (aCons (eVar 2) aNil)) (eC (.int 12))))
  (sRet (eAndD (eVar 4) (eBin (isR false) (eVar 3) (eC .none))))
  sPass) [some (.sh (.list (ms.map M.D))), some (.sh (.list (ms.map M.D6))), some (.bo (S.map M.D)), some (.bo ((sM S).map M.D6)), some (.sh (.bool false)), none, none, none, none, none, none] = some (.nx [some (.sh (.list (ms.map M.D))), some (.sh (.list (ms.map M.D6))), some (.bo (S.map M.D)), some (.bo ((sM S).map M.D6)), some (.sh (.bool false)), none, none, none, none, none, none]) := by
    simp [h12]
  have s7 : (sIf (tLnd [2, 3] (tOrD (tOf (eVar 4)) (tNotD (tOf (eFn (f__law_same 24) (aCons (eVar 3) (aCons (eCall (on1 sortR) (aCons (eLc (itSeq (eVar 2)) (gNm 10) tYesD (eFn f__law_plain (aCons (eVar 10) aNil)) [10]) aNil)) aNil)))))))
  (sRet (eC (.bool false)))
  sPass) [some (.sh (.list (ms.map M.D))), some (.sh (.list (ms.map M.D6))), some (.bo (S.map M.D)), some (.bo ((sM S).map M.D6)), some (.sh (.bool false)), none, none, none, none, none, none] = some (.nx [some (.sh (.list (ms.map M.D))), some (.sh (.list (ms.map M.D6))), some (.bo (S.map M.D)), some (.bo ((sM S).map M.D6)), some (.sh (.bool false)), none, none, none, none, none, none]) := by
    have lp := lc_plain (q := [some (.sh (.list (ms.map M.D))), some (.sh (.list (ms.map M.D6))), some (.sh (.list (S.map M.D))), some (.sh (.list ((sM S).map M.D6))), some (.sh (.bool false)), none, none, none, none, none, none]) (i := 10) (show 10 < 11 by decide) S
    simp [lp, l2, wipeD, frz1, sortR, s6_, r6, sm]
  have s8 : (sFrz [2] (sFo [7, 8, 9] (sPre [7, 8, 9] (sFor (itSeq (eVar 2)) (gNm 7)
  l__law_told_1)))) [some (.sh (.list (ms.map M.D))), some (.sh (.list (ms.map M.D6))), some (.bo (S.map M.D)), some (.bo ((sM S).map M.D6)), some (.sh (.bool false)), none, none, none, none, none, none] = some (.nx [some (.sh (.list (ms.map M.D))), some (.sh (.list (ms.map M.D6))), some (.sh (.list (S.map M.D))), some (.bo ((sM S).map M.D6)), some (.sh (.bool false)), none, none, none, none, none, none]) := by
    simp [frz1, for_cl]
  have s9 : (sApp 3 (eTup (aCons (eC (.int 1)) (aCons (eC (.int 2)) (aCons (eC (.int 3)) (aCons (eC (.int 4)) (aCons (eC (.int 5)) (aCons (eC (.int 6)) aNil)))))))) [some (.sh (.list (ms.map M.D))), some (.sh (.list (ms.map M.D6))), some (.sh (.list (S.map M.D))), some (.bo ((sM S).map M.D6)), some (.sh (.bool false)), none, none, none, none, none, none] = some (.nx [some (.sh (.list (ms.map M.D))), some (.sh (.list (ms.map M.D6))), some (.sh (.list (S.map M.D))), some (.bo ((sM S).map M.D6 ++ [PyData.tuple [.int 1, .int 2, .int 3, .int 4, .int 5, .int 6]])), some (.sh (.bool false)), none, none, none, none, none, none]) := by
    simp [sApp_run, hlen, l3]
  have s10 : (sPut 3 (eC (.int 0)) (eTup (aCons (eC (.int 0)) (aCons (eC (.int 0)) (aCons (eC (.int 0)) (aCons (eC (.int 0)) (aCons (eC (.int 0)) (aCons (eC (.int 0)) aNil)))))))) [some (.sh (.list (ms.map M.D))), some (.sh (.list (ms.map M.D6))), some (.sh (.list (S.map M.D))), some (.bo ((sM S).map M.D6 ++ [PyData.tuple [.int 1, .int 2, .int 3, .int 4, .int 5, .int 6]])), some (.sh (.bool false)), none, none, none, none, none, none] = some (.nx [some (.sh (.list (ms.map M.D))), some (.sh (.list (ms.map M.D6))), some (.sh (.list (S.map M.D))), some (.bo (((sM S).map M.D6 ++ [PyData.tuple [.int 1, .int 2, .int 3, .int 4, .int 5, .int 6]]).set 0 (PyData.tuple [.int 0, .int 0, .int 0, .int 0, .int 0, .int 0]))), some (.sh (.bool false)), none, none, none, none, none, none]) := by
    rw [sPut_eq (ds := (sM S).map M.D6 ++ [PyData.tuple [.int 1, .int 2, .int 3, .int 4, .int 5, .int 6]]) rfl]
    simp [ixN, hlen]
  have lp := lc_plain (q := [some (.sh (.list (ms.map M.D))), some (.sh (.list (ms.map M.D6))), some (.sh (.list (S.map M.D))), some (.bo (((sM S).map M.D6 ++ [PyData.tuple [.int 1, .int 2, .int 3, .int 4, .int 5, .int 6]]).set 0 (PyData.tuple [.int 0, .int 0, .int 0, .int 0, .int 0, .int 0]))), some (.sh (.bool false)), none, none, none, none, none, none]) (i := 10) (show 10 < 11 by decide) S
  have s11 : (sFrz [1, 2] (sRet (eFn (f__law_same 24) (aCons (eFn (okD f_group_of) (aCons (eVar 1) aNil)) (aCons (eCall (on1 sortR) (aCons (eLc (itSeq (eVar 2)) (gNm 10) tYesD (eFn f__law_plain (aCons (eVar 10) aNil)) [10]) aNil)) aNil))))) [some (.sh (.list (ms.map M.D))), some (.sh (.list (ms.map M.D6))), some (.sh (.list (S.map M.D))), some (.bo (((sM S).map M.D6 ++ [PyData.tuple [.int 1, .int 2, .int 3, .int 4, .int 5, .int 6]]).set 0 (PyData.tuple [.int 0, .int 0, .int 0, .int 0, .int 0, .int 0]))), some (.sh (.bool false)), none, none, none, none, none, none] = some (.rt (.sh (.bool true))) := by
    simp [lp, l2, wipeD, frz1, sortR, s6_, r6, sm, ego]
  have e0 : f__law_told [.list (ms.map M.D)] = finD (b__law_told [some (.sh (.list (ms.map M.D))), none, none, none, none, none, none, none, none, none, none]) := fnD_1
  rw [e0, b__law_told, seq_run s0, seq_run s1, seq_run s2, seq_run s3, seq_run s4, seq_run s5, seq_run s6, seq_run s7, seq_run s8, seq_run s9, seq_run s10, s11]
  rfl
theorem e_told {ms : List M} {b : Nat} (hd : ∀ m ∈ ms, m.det = 1 ∨ m.det = -1) (hb : ∀ m ∈ ms, m.bd b) (hn : b ≤ 130) (hl : ms.length ≤ 4) : f__law_told [.list (ms.map M.D)] = some (.sh (.bool true)) := by
  rcases group_two hd hb (by omega) hl with ⟨S, g, hS, bS, hL, e⟩ | ⟨h13, e⟩
  · exact told_A hd hb hn hl hS g bS hL e
  · exact told_B hd hb (by omega) hl h13 e
end Lk77
set_option maxRecDepth 100000
set_option maxHeartbeats 1000000
namespace Lk77
open PySem L2 F3 Gr
theorem e_draws (ns : List Int) (N : Nat) (hN : N ≤ 100) : ∃ ds : List Int, f__law_draws [.list (ns.map .int), .int (N : Int)] = some (.fr (ds.map .int)) ∧ ds.length = N ∧ Dr ds := by
  have hcut : cutD (ns.map PyData.int) none (some 63) = (ns.take 63).map PyData.int := by
    rw [show (some 63 : Option Int) = some ((63 : Nat) : Int) from rfl, cut_to, List.map_take]
  have hlen : (ns.take 63).length ≤ 63 := by rw [List.length_take]; omega
  obtain ⟨ρ', e, fs, rfl, f1, f2⟩ := for_inv (g := gNm 3) (b := (sFo [3, 4, 5, 6] (sSeq (sSet 4 (eCall (on1 absR) (aCons (eCall (on1 intR) (aCons (eVar 3) aNil)) aNil)))
 (sFo [4, 5, 6] (sIf (tOf (eBin geR (eVar 4) (eBin powR (eC (.int 10)) (eC (.int 18)))))
  (sFo [4, 5] (sPre [5] (sFor (itRng (aCons (eC (.int 60)) aNil)) (gNm 5)
  (sFo [5] (sIf (tOf (eBin gtR (eVar 4) (eC (.int 0))))
  (sSeq (sApp 2 (eBin modR (eVar 4) (eC (.int 1000003))))
 (sSet 4 (eBin fdivR (eVar 4) (eC (.int 1000003)))))
  sPass)))))
  (sSeq (sSet 6 (eBin modR (eBin addR (eBin addR (eBin mulI (eVar 4) (eC (.int 48271))) (eBin mulI (eC (.int 7)) (eCall (on1 lenR) (aCons (eVar 2) aNil)))) (eC (.int 11))) (eC (.int 2147483647))))
 (sFo [5, 6] (sPre [5] (sFor (itRng (aCons (eC (.int 4)) aNil)) (gNm 5)
  (sFo [5] (sSeq (sSet 6 (eBin modR (eBin addR (eBin addR (eBin addR (eBin mulI (eVar 6) (eC (.int 69621))) (eBin fdivR (eVar 6) (eC (.int 65536)))) (eBin mulI (eC (.int 13)) (eVar 5))) (eC (.int 5))) (eC (.int 2147483629))))
 (sApp 2 (eBin modR (eBin fdivR (eVar 6) (eC (.int 8))) (eC (.int 1000003))))))))))))))) (fun k ρ => ∃ (gs : List Int), ρ = [some (.sh (.list (ns.map .int))), some (.sh (.int (N : Int))), some (.bo (gs.map .int)), none, none, none, none, none] ∧ Dr gs ∧ gs.length ≤ 60 * k) ((ns.take 63).map PyData.int) 0
     [some (.sh (.list (ns.map .int))), some (.sh (.int (N : Int))), some (.bo []), none, none, none, none, none] (fun k d ρ hk hI => by
      obtain ⟨gs, rfl, i1, i2⟩ := hI
      have hk63 : k < 63 := by
        have := (List.getElem?_eq_some_iff.mp hk).1
        rw [List.length_map] at this
        omega
      obtain ⟨x, hx, rfl⟩ : ∃ x : Int, x ∈ ns.take 63 ∧ d = .int x := by
        rw [List.getElem?_map] at hk
        obtain ⟨x, hx, hd⟩ := Option.map_eq_some_iff.mp hk
        exact ⟨x, List.mem_of_getElem? hx, hd.symm⟩
      obtain ⟨v, hv⟩ : ∃ v : Int, v = if x < 0 then -x else x := ⟨_, rfl⟩
      have v0 : 0 ≤ v := by rw [hv]; split <;> omega
      have r60 : rOk 60 := rOk_nat (n := 60) (by decide)
      have r4 : rOk 4 := rOk_nat (n := 4) (by decide)
      by_cases hb : 1000000000000000000 ≤ v
      · obtain ⟨hs, u, e, h1, h2⟩ := draws_big (some (.sh (.list (ns.map .int)))) (some (.sh (.int (N : Int)))) (some (.sh (.int x))) v v0 gs i1 60 (by omega)
        refine ⟨_, ?_, hs, rfl, h1, by omega⟩
        simp [← hv, hb, r60, e]
      · obtain ⟨m, hm⟩ : ∃ m : Int, m = (v * 48271 + 7 * (gs.length : Int) + 11) % 2147483647 := ⟨_, rfl⟩
        obtain ⟨hs, u, e, h1, h2⟩ := draws_four (some (.sh (.list (ns.map .int)))) (some (.sh (.int (N : Int)))) (some (.sh (.int x))) (some (.sh (.int v))) m (by rw [hm]; exact Int.emod_nonneg _ (by decide)) (by rw [hm]; exact Int.emod_lt_of_pos _ (by decide)) gs i1 4 (by decide) (by omega)
        have m1 : mulOk v 48271 := mulOk_of (bd_of (n := 64) (by omega) (by omega)) (show Bd 32 48271 by decide) (by decide)
        have m2 : mulOk 7 (gs.length : Int) := mulOk_of (show Bd 32 7 by decide) (bd_of (n := 32) (by omega) (by omega)) (by decide)
        refine ⟨_, ?_, hs, rfl, h1, by omega⟩
        simp [← hv, hb, m1, m2, ← hm, r4, e]) ⟨[], rfl, nofun, Nat.zero_le _⟩
  rw [List.length_map] at f2
  obtain ⟨gs, e2, g1, g2, g3⟩ := draws_fill (some (.sh (.list (ns.map .int)))) none none none fs f1 N hN (by omega)
  have r14 : rOk (N : Int) := rOk_nat (n := N) (by omega)
  have hc2 : cutD (gs.map PyData.int) none (some (N : Int)) = (gs.take N).map PyData.int := by
    rw [cut_to, List.map_take]
  refine ⟨gs.take N, ?_, by rw [List.length_take]; omega, fun i hi => g1 i (List.mem_of_mem_take hi)⟩
  rw [List.map_take] at e hcut hc2
  simp [f__law_draws, b__law_draws, hcut, e, r14, e2, hc2]
end Lk77
set_option maxRecDepth 100000
set_option maxHeartbeats 1000000
/-! Gh: groups led by a turn, counted; plain Lean -/
namespace Gr
open PySem L2 F3
theorem by_hom {h : M} (hd : h.det = 1) (x y : M) : M.by_ h (x * y) = M.by_ h x * M.by_ h y := by
  unfold M.by_
  rw [M.mul_assoc (h * x) h.inv, ← M.mul_assoc h.inv, ← M.mul_assoc h.inv, M.inv_mul hd, M.one_mul]
  simp only [M.mul_assoc]
theorem by_inj {h x y : M} (hd : h.det = 1) (e : M.by_ h x = M.by_ h y) : x = y := by
  have e1 := M.by_lead (x := x) hd
  rw [e, ← M.by_lead hd] at e1
  exact cancelL (Or.inl hd) e1
theorem by_one_ {h : M} (hd : h.det = 1) : M.by_ h M.one = M.one := by
  unfold M.by_
  rw [M.mul_one, M.mul_inv hd]
theorem by_mem {h x : M} (hd : h.det = 1) {f : List M} : M.by_ h x ∈ f.map (M.by_ h) ↔ x ∈ f := by
  constructor
  · intro hx
    obtain ⟨y, hy, e⟩ := List.mem_map.mp hx
    rw [← by_inj hd e]
    exact hy
  · intro hx
    exact List.mem_map.mpr ⟨x, hx, rfl⟩
theorem by_addNew {h : M} (hd : h.det = 1) (f : List M) (p : M) : addNew (f.map (M.by_ h)) (M.by_ h p) = (addNew f p).map (M.by_ h) := by
  unfold addNew
  by_cases hp : p ∈ f
  · rw [if_pos hp, if_pos ((by_mem hd).mpr hp)]
  · rw [if_neg hp, if_neg fun z => hp ((by_mem hd).mp z), List.map_append]
    rfl
theorem by_bst {h : M} (hd : h.det = 1) (x : M) : ∀ (ms f : List M), bst (ms.map (M.by_ h)) (f.map (M.by_ h)) (M.by_ h x) = (bst ms f x).map (M.by_ h)
  | [], f => rfl
  | m :: ms, f => by
    show bst (ms.map (M.by_ h)) (addNew (f.map (M.by_ h)) (M.by_ h m * M.by_ h x)) (M.by_ h x) = (bst ms (addNew f (m * x)) x).map (M.by_ h)
    rw [← by_hom hd, by_addNew hd, by_bst hd x ms]
theorem by_stp {h : M} (hd : h.det = 1) (ms f : List M) (k : Nat) : stp (ms.map (M.by_ h)) (f.map (M.by_ h)) k = (stp ms f k).map (M.by_ h) := by
  unfold stp
  rw [List.getElem?_map]
  cases f[k]? with
  | none => rfl
  | some x => exact by_bst hd x ms f
theorem by_law {h : M} (hd : h.det = 1) (ms : List M) : ∀ n, law (ms.map (M.by_ h)) n = (law ms n).map (M.by_ h)
  | 0 => by
    show [M.one] = [M.by_ h M.one]
    rw [by_one_ hd]
  | n + 1 => by
    have ih := by_law hd ms n
    show (if n < (law (ms.map (M.by_ h)) n).length ∧ (law (ms.map (M.by_ h)) n).length < 14 then stp (ms.map (M.by_ h)) (law (ms.map (M.by_ h)) n) n else law (ms.map (M.by_ h)) n) = (if n < (law ms n).length ∧ (law ms n).length < 14 then stp ms (law ms n) n else law ms n).map (M.by_ h)
    rw [ih, List.length_map]
    split
    · exact by_stp hd ms _ n
    · rfl
/-! ### lists of unlike ones -/
def dd {α : Type} [DecidableEq α] (l : List α) : List α := l.foldl (fun g x => if x ∈ g then g else g ++ [x]) []
theorem dd_fold {α β γ : Type} [DecidableEq β] [DecidableEq γ] (f : α → β) (g : α → γ) (h : ∀ x y, f x = f y ↔ g x = g y) : ∀ (l : List α) (k : List α),
    ∃ k' : List α, (l.map f).foldl (fun s x => if x ∈ s then s else s ++ [x]) (k.map f) = k'.map f ∧ (l.map g).foldl (fun s x => if x ∈ s then s else s ++ [x]) (k.map g) = k'.map g
  | [], k => ⟨k, rfl, rfl⟩
  | a :: l, k => by
    have hm : f a ∈ k.map f ↔ g a ∈ k.map g := by
      rw [List.mem_map, List.mem_map]
      constructor
      · rintro ⟨x, hx, e⟩; exact ⟨x, hx, (h x a).mp e⟩
      · rintro ⟨x, hx, e⟩; exact ⟨x, hx, (h x a).mpr e⟩
    rw [List.map_cons, List.map_cons, List.foldl_cons, List.foldl_cons]
    by_cases hc : f a ∈ k.map f
    · rw [if_pos hc, if_pos (hm.mp hc)]
      exact dd_fold f g h l k
    · rw [if_neg hc, if_neg fun z => hc (hm.mpr z)]
      have e1 : k.map f ++ [f a] = (k ++ [a]).map f := by simp
      have e2 : k.map g ++ [g a] = (k ++ [a]).map g := by simp
      rw [e1, e2]
      exact dd_fold f g h l (k ++ [a])
theorem dd_len {α β γ : Type} [DecidableEq β] [DecidableEq γ] {f : α → β} {g : α → γ} (h : ∀ x y, f x = f y ↔ g x = g y) (l : List α) : (dd (l.map f)).length = (dd (l.map g)).length := by
  obtain ⟨k, e1, e2⟩ := dd_fold f g h l []
  unfold dd
  simp only [List.map_nil] at e1 e2
  rw [e1, e2, List.length_map, List.length_map]
/-- the pairs, as the law goes through them -/
def prs (n : Nat) : List (Nat × Nat) := (List.range n).flatMap fun i => (List.range (i + 1)).map fun k => (i, k)
/-- the members, told in the order of K -/
def mem_ (K ms : List M) : List M := K.filter fun x => (law ms 13).contains x
def rotL (c : Nat) (K : List M) : List M := K.drop c ++ K.take c
def cntK (K : List M) (c : Nat) : Nat := (dd ((prs K.length).map fun p => mem_ K [(rotL c K).getD p.2 M.one, (rotL c K).getD p.1 M.one])).length
theorem cnt_D : ∀ c ∈ List.range 8, cntK kD c = 10 := by decide +kernel
theorem cnt_N : ∀ c ∈ List.range 12, cntK kN c = 16 := by decide +kernel
end Gr
set_option maxRecDepth 100000
set_option maxHeartbeats 1000000
/-! Gi: the groups of pairs, unlike or not; plain Lean -/
namespace Gr
open PySem L2 F3
theorem law_nd (ms : List M) : ∀ n, (law ms n).Nodup
  | 0 => by simp [law]
  | n + 1 => by
    have ih := law_nd ms n
    show (if n < (law ms n).length ∧ (law ms n).length < 14 then stp ms (law ms n) n else law ms n).Nodup
    split
    · unfold stp
      split
      · exact bst_nd _ _ _ ih
      · exact ih
    · exact ih
theorem in_D : ∀ x ∈ kD, ∀ y ∈ kD, (law [x, y] 13).all (fun z => kD.contains z) = true := by decide +kernel
theorem in_N : ∀ x ∈ kN, ∀ y ∈ kN, (law [x, y] 13).all (fun z => kN.contains z) = true := by decide +kernel
theorem perm_nd {l k : List M} (hl : l.Nodup) (hk : k.Nodup) (h : ∀ x, x ∈ l ↔ x ∈ k) : l.Perm k := by
  have e : (k.filter fun x => decide (x ∈ l)) = k := List.filter_eq_self.mpr fun x hx => decide_eq_true ((h x).mpr hx)
  have := sub_perm hl hk fun x hx => (h x).mp hx
  rw [e] at this
  exact this.symm
theorem sM_inj {l k : List M} (h : sM l = sM k) : l.Perm k := (sM_perm l).symm.trans (h ▸ sM_perm k)
/-- two led lists are sorted alike exactly if their members in K are the same -/
theorem key_iff {K : List M} {h : M} (hd : h.det = 1) {a b : List M} (ha : (law a 13).all (fun z => K.contains z) = true) (hb : (law b 13).all (fun z => K.contains z) = true) :
    sM (law (a.map (M.by_ h)) 13) = sM (law (b.map (M.by_ h)) 13) ↔ mem_ K a = mem_ K b := by
  rw [by_law hd, by_law hd]
  have ina : ∀ x, x ∈ mem_ K a ↔ x ∈ law a 13 := fun x => by
    unfold mem_
    rw [List.mem_filter, List.contains_iff_mem]
    exact ⟨fun z => z.2, fun z => ⟨List.contains_iff_mem.mp (List.all_eq_true.mp ha x z), z⟩⟩
  have inb : ∀ x, x ∈ mem_ K b ↔ x ∈ law b 13 := fun x => by
    unfold mem_
    rw [List.mem_filter, List.contains_iff_mem]
    exact ⟨fun z => z.2, fun z => ⟨List.contains_iff_mem.mp (List.all_eq_true.mp hb x z), z⟩⟩
  constructor
  · intro e
    have p := sM_inj e
    unfold mem_
    apply List.filter_congr
    intro x _
    rw [Bool.eq_iff_iff, List.contains_iff_mem, List.contains_iff_mem, ← by_mem hd, p.mem_iff, by_mem hd]
  · intro e
    refine sM_eq ((perm_nd (law_nd a 13) (law_nd b 13) fun x => ?_).map _)
    rw [← ina, e, inb]
end Gr
set_option maxRecDepth 100000
set_option maxHeartbeats 1000000
/-! Gj: turns of a few shears, told exactly; plain Lean -/
namespace Gr
open PySem L2 F3
def evenF (t : Nat → Int) : Nat → M
  | 0 => M.one
  | k + 1 => if k % 2 = 0 then ⟨(evenF t k).a + t k * (evenF t k).c, (evenF t k).b + t k * (evenF t k).d, (evenF t k).c, (evenF t k).d⟩ else ⟨(evenF t k).a, (evenF t k).b, (evenF t k).c + t k * (evenF t k).a, (evenF t k).d + t k * (evenF t k).b⟩
theorem evenF_e {t : Nat → Int} {k : Nat} (h : k % 2 = 0) : evenF t (k + 1) = ⟨(evenF t k).a + t k * (evenF t k).c, (evenF t k).b + t k * (evenF t k).d, (evenF t k).c, (evenF t k).d⟩ := if_pos h
theorem evenF_o {t : Nat → Int} {k : Nat} (h : ¬ k % 2 = 0) : evenF t (k + 1) = ⟨(evenF t k).a, (evenF t k).b, (evenF t k).c + t k * (evenF t k).a, (evenF t k).d + t k * (evenF t k).b⟩ := if_neg h
theorem evenF_det (t : Nat → Int) : ∀ k, (evenF t k).det = 1
  | 0 => (by decide : M.one.det = 1)
  | k + 1 => by
    have ih := evenF_det t k
    unfold M.det at ih ⊢
    by_cases h : k % 2 = 0
    · rw [evenF_e h]
      simp only [Int.add_mul, Int.mul_assoc, Int.mul_comm (evenF t k).d (evenF t k).c]
      omega
    · rw [evenF_o h]
      simp only [Int.mul_add]
      have c1 : (evenF t k).a * (t k * (evenF t k).b) = (evenF t k).b * (t k * (evenF t k).a) := by ac_rfl
      omega
theorem evenF_congr {t u : Nat → Int} : ∀ n, (∀ k, k < n → t k = u k) → evenF t n = evenF u n
  | 0, _ => rfl
  | n + 1, h => by
    have ih := evenF_congr n fun k hk => h k (by omega)
    unfold evenF
    rw [ih, h n (by omega)]
def t3 (x y z : Int) : Nat → Int
  | 0 => x
  | 1 => y
  | _ => z
theorem evenF_t3 (t : Nat → Int) {n : Nat} (h : n ≤ 3) : evenF t n = evenF (t3 (t 0) (t 1) (t 2)) n := by
  refine evenF_congr n fun k hk => ?_
  match k, hk with
  | 0, _ => rfl
  | 1, _ => rfl
  | 2, _ => rfl
  | k + 3, hk => omega
def bdb (n : Nat) (m : M) : Bool := decide (m.a.natAbs < 2 ^ n) && decide (m.b.natAbs < 2 ^ n) && decide (m.c.natAbs < 2 ^ n) && decide (m.d.natAbs < 2 ^ n)
theorem bdb_bd {n : Nat} {m : M} (h : bdb n m = true) : m.bd n := by
  unfold bdb at h
  simp only [Bool.and_eq_true, decide_eq_true_eq] at h
  exact ⟨h.1.1.1, h.1.1.2, h.1.2, h.2⟩
def five : List Int := [-2, -1, 0, 1, 2]
theorem in_five {x : Int} (h0 : -2 ≤ x) (h1 : x ≤ 2) : x ∈ five := by
  simp only [five, List.mem_cons, List.not_mem_nil, or_false]
  omega
theorem mod_five (x : Int) : x % (2 * 2 + 1) - 2 ∈ five := in_five (by omega) (by omega)
theorem five_led : ∀ x ∈ five, ∀ y ∈ five, ∀ z ∈ five, ∀ n ∈ List.range 4, (kD ++ kN).all (fun m => bdb 9 (M.by_ (evenF (t3 x y z) n) m)) = true := by decide +kernel
theorem five_two : ∀ x ∈ five, ∀ y ∈ five, ∀ n ∈ List.range 3, bdb 3 (evenF (t3 x y 0) n) = true := by decide +kernel
theorem led_bd {t : Nat → Int} (ht : ∀ k, t k ∈ five) {n : Nat} (hn : n ≤ 3) {m : M} (hm : m ∈ kD ++ kN) : (M.by_ (evenF t n) m).bd 9 := by
  rw [evenF_t3 t hn]
  exact bdb_bd (List.all_eq_true.mp (five_led _ (ht 0) _ (ht 1) _ (ht 2) n (List.mem_range.mpr (by omega))) m hm)
theorem two_bd {t : Nat → Int} (ht : ∀ k, t k ∈ five) {n : Nat} (hn : n ≤ 2) : (evenF t n).bd 3 := by
  have e : evenF t n = evenF (t3 (t 0) (t 1) 0) n := by
    refine evenF_congr n fun k hk => ?_
    match k, hk with
    | 0, _ => rfl
    | 1, _ => rfl
    | k + 2, hk => omega
  rw [e]
  exact bdb_bd (five_two _ (ht 0) _ (ht 1) n (List.mem_range.mpr (by omega)))
end Gr
set_option maxRecDepth 100000
set_option maxHeartbeats 1000000
namespace Lk77
open PySem L2 F3 Gr
theorem e_evenS {ds : List Int} {at_ : Nat} (n : Nat) (hn : n ≤ 6) (hl : at_ + n ≤ ds.length) {mo : Int} (m0 : 0 < mo) (m1 : mo ≤ 1000) : f__law_even [.list (ds.map .int), .int at_, .int n, .int mo] = some (.sh (evenF (fun k => a0 ds (at_ + k) % (2 * mo + 1) - mo) n).D) ∧ (evenF (fun k => a0 ds (at_ + k) % (2 * mo + 1) - mo) n).bd 67 := by
  have rn : rOk (n : Int) := rOk_nat (by omega)
  have bmo : F3.Bd 10 mo := bd_of (by omega) (by omega)
  have m23 : mulOk 2 mo := mulOk_of (show F3.Bd 3 2 by decide) bmo (by decide)
  obtain ⟨w, hw⟩ : ∃ w : Int, w = 2 * mo + 1 := ⟨_, rfl⟩
  have dv : 0 < w := by omega
  rw [← hw]
  obtain ⟨T, hT⟩ : ∃ T : Nat → Int, T = fun k => a0 ds (at_ + k) % w - mo := ⟨_, rfl⟩
  rw [← hT]
  obtain ⟨ρ', e, rfl, h2⟩ := for_inv (g := gNm 8) (b := l__law_even_1) (fun k ρ => ρ = [some (.sh (.list (ds.map .int))), some (.sh (.int at_)), some (.sh (.int n)), some (.sh (.int mo)), some (.sh (.int (evenF T k).a)), some (.sh (.int (evenF T k).b)), some (.sh (.int (evenF T k).c)), some (.sh (.int (evenF T k).d)), none, none] ∧ (evenF T k).bd (1 + 11 * k)) (rangeD 0 1 n) 0
    [some (.sh (.list (ds.map .int))), some (.sh (.int at_)), some (.sh (.int n)), some (.sh (.int mo)), some (.sh (.int 1)), some (.sh (.int 0)), some (.sh (.int 0)), some (.sh (.int 1)), none, none] (fun k d ρ hk hI => by
      obtain ⟨hkn, rfl⟩ := rng_get hk
      rw [Nat.zero_add] at *
      obtain ⟨rfl, i2, i3, i4, i5⟩ := hI
      have e := ints_at ds (k := at_ + k) (by omega)
      have e2 : atI (ds.map PyData.int) ((at_ : Int) + (k : Int)) = some (.int (a0 ds (at_ + k))) := by
        rw [show ((at_ : Int) + (k : Int)) = ((at_ + k : Nat) : Int) by omega, atI_nat', e]
      have ht : T k = a0 ds (at_ + k) % w - mo := by rw [hT]
      have t0 := Int.emod_nonneg (a0 ds (at_ + k)) (show w ≠ 0 by omega)
      have t1 := Int.emod_lt_of_pos (a0 ds (at_ + k)) (show 0 < w by omega)
      have bt : F3.Bd 10 (T k) := bd_of (by omega) (by omega)
      clear t0 t1
      have n1 := mulOk_of bt i2 (by omega)
      have n2 := mulOk_of bt i3 (by omega)
      have n3 := mulOk_of bt i4 (by omega)
      have n4 := mulOk_of bt i5 (by omega)
      have st : ∀ {p q : Int}, F3.Bd (1 + 11 * k) p → F3.Bd (1 + 11 * k) q → F3.Bd (1 + 11 * (k + 1)) (p + T k * q) := fun hp hq => ((hp.mono (show 1 + 11 * k ≤ 10 + (1 + 11 * k) by omega)).add (bt.mul hq)).mono (by omega)
      by_cases hp : k % 2 = 0
      · rw [evenF_e hp]
        refine ⟨_, ?_, rfl, st i2 i4, st i3 i5, i4.mono (by omega), i5.mono (by omega)⟩
        simp [l__law_even_1, mod2, hp, e2, m23, ← hw, dv, ← ht, n1, n2, n3, n4]
      · rw [evenF_o hp]
        refine ⟨_, ?_, rfl, i2.mono (by omega), i3.mono (by omega), st i4 i2, st i5 i3⟩
        simp [l__law_even_1, mod2, hp, e2, m23, ← hw, dv, ← ht, n1, n2, n3, n4]) ⟨rfl, one_bd⟩
  rw [rangeD_len, Nat.zero_add] at e h2
  refine ⟨?_, h2.mono (by omega)⟩
  simp [f__law_even, b__law_even, rn, e, M.D]
end Lk77
set_option maxRecDepth 100000
set_option maxHeartbeats 1000000
namespace Lk77
open PySem L2 F3 Gr
def u3 : List Int := [-1, 0, 1]
theorem u3_bd : ∀ d ∈ u3, F3.Bd 3 d := by decide
theorem u3_rng : rangeD (-1) 1 3 = u3.map PyData.int := rfl
def okM (k : M → Bool) (m : M) : Bool := decide (m.det = 1 ∨ m.det = -1) && k m
theorem kp1 {kd : Str} {k : M → Bool} (K : Kn kd k) {a b c : Int} (ha : F3.Bd 3 a) (hb : F3.Bd 3 b) (hc : F3.Bd 3 c) : ∀ (ds : List Int), (∀ d ∈ ds, F3.Bd 3 d) → ∀ acc : List M, acc.length + ds.length ≤ 1000 →
    forD (gNm 5) l__law_keeping_1 (ds.map .int) [some (.sh (.str kd)), some (.bo (acc.map M.D)), some (.sh (.int a)), some (.sh (.int b)), some (.sh (.int c)), none] = some (Out.nx [some (.sh (.str kd)), some (.bo ((acc ++ (ds.map (M.mk a b c)).filter (okM k)).map M.D)), some (.sh (.int a)), some (.sh (.int b)), some (.sh (.int c)), none])
  | [], _, acc, _ => by simp [forD]
  | d :: ds, h, acc, hl => by
    rw [List.length_cons] at hl
    have hd := h d List.mem_cons_self
    have m1 := mulOk_of ha hd (by decide)
    have m2 := mulOk_of hb hc (by decide)
    have bm : (M.mk a b c d).bd 3 := ⟨ha, hb, hc, hd⟩
    rw [List.map_cons, List.map_cons, forD, List.filter_cons]
    have habs : ((if a * d - b * c < 0 then -(a * d - b * c) else a * d - b * c) = 1) ↔ ((M.mk a b c d).det = 1 ∨ (M.mk a b c d).det = -1) := by
      show _ ↔ (a * d - b * c = 1 ∨ a * d - b * c = -1)
      split <;> omega
    obtain ⟨w, hw⟩ : ∃ w : Int, w = if a * d - b * c < 0 then -(a * d - b * c) else a * d - b * c := ⟨_, rfl⟩
    rw [← hw] at habs
    have hD : (M.mk a b c d).D = .tuple [.int a, .int b, .int c, .int d] := rfl
    by_cases hdt : (M.mk a b c d).det = 1 ∨ (M.mk a b c d).det = -1
    · have e := K.law bm (by decide) hdt
      have ht := habs.mpr hdt
      rw [hD] at e
      cases hk : k ⟨a, b, c, d⟩ with
      | true =>
        have ho : okM k ⟨a, b, c, d⟩ = true := by unfold okM; rw [decide_eq_true hdt, hk]; rfl
        have ih := kp1 K ha hb hc ds (fun x hx => h x (List.mem_cons_of_mem _ hx)) (acc ++ [⟨a, b, c, d⟩]) (by rw [List.length_append]; simp; omega)
        rw [hk] at e
        rw [if_pos ho, show acc ++ ⟨a, b, c, d⟩ :: (ds.map (M.mk a b c)).filter (okM k) = (acc ++ [⟨a, b, c, d⟩]) ++ (ds.map (M.mk a b c)).filter (okM k) by simp, ← ih]
        have hl' : acc.length < 1000000 := by omega
        simp [l__law_keeping_1, m1, m2, ← hw, ht, e, sApp_run, hl', hD]
      | false =>
        have ho : ¬ okM k ⟨a, b, c, d⟩ = true := by unfold okM; rw [hk, Bool.and_false]; decide
        have ih := kp1 K ha hb hc ds (fun x hx => h x (List.mem_cons_of_mem _ hx)) acc (by omega)
        rw [hk] at e
        rw [if_neg ho, ← ih]
        simp [l__law_keeping_1, m1, m2, ← hw, ht, e]
    · have ho : ¬ okM k ⟨a, b, c, d⟩ = true := by unfold okM; rw [decide_eq_false hdt, Bool.false_and]; decide
      have ih := kp1 K ha hb hc ds (fun x hx => h x (List.mem_cons_of_mem _ hx)) acc (by omega)
      have ht : ¬ w = 1 := fun z => hdt (habs.mp z)
      rw [if_neg ho, ← ih]
      simp [l__law_keeping_1, m1, m2, ← hw, ht]
def p1 (k : M → Bool) (a b c : Int) : List M := (u3.map (M.mk a b c)).filter (okM k)
def p2 (k : M → Bool) (a b : Int) : List M := u3.flatMap fun c => p1 k a b c
def p3 (k : M → Bool) (a : Int) : List M := u3.flatMap fun b => p2 k a b
def p4 (k : M → Bool) : List M := u3.flatMap fun a => p3 k a
theorem p4_S : p4 kS = kD := by decide
theorem p4_H : p4 kH = kN := by decide
theorem p1_len (k : M → Bool) (a b c : Int) : (p1 k a b c).length ≤ 3 := by
  unfold p1
  refine Nat.le_trans (List.length_filter_le _ _) ?_
  rw [List.length_map]
  decide
/-- a level of the loops -/
theorem lvl {g : PyData → Rh → Option Rh} {b : Rh → Option Out} {f : List M → Rh} {p : Int → List M} {n : Nat} (h : ∀ d ∈ u3, ∀ acc : List M, acc.length ≤ n → ((g (.int d) (f acc)).bind b) = some (Out.nx (f (acc ++ p d)))) (m : Nat) (hp : ∀ d, (p d).length ≤ m) :
    ∀ acc : List M, acc.length + 3 * m ≤ n → forD g b (u3.map .int) (f acc) = some (Out.nx (f (acc ++ u3.flatMap p))) := by
  intro acc hl
  have h1 := hp (-1)
  have h2 := hp 0
  obtain ⟨r1, a1, b1⟩ := bind_some (h (-1) (by decide) acc (by omega))
  obtain ⟨r2, a2, b2⟩ := bind_some (h 0 (by decide) (acc ++ p (-1)) (by rw [List.length_append]; omega))
  obtain ⟨r3, a3, b3⟩ := bind_some (h 1 (by decide) (acc ++ p (-1) ++ p 0) (by rw [List.length_append, List.length_append]; omega))
  have e : acc ++ u3.flatMap p = acc ++ p (-1) ++ p 0 ++ p 1 := by simp [u3]
  rw [e]
  show forD g b [.int (-1), .int 0, .int 1] (f acc) = _
  simp only [forD, a1, b1, a2, b2, a3, b3, Option.bind_some]
end Lk77
set_option maxRecDepth 100000
set_option maxHeartbeats 1000000
namespace Lk77
open PySem L2 F3 Gr
theorem rng_m : rngD [-1, 2] = some (u3.map PyData.int) := by
  rw [rngD_eq]
  show (if rOk (-1) ∧ rOk 2 then some (rangeD (-1) 1 ((2 : Int) - (-1)).toNat) else none) = _
  rw [if_pos ⟨by unfold rOk; omega, by unfold rOk; omega⟩]
  rfl
theorem p2_len (k : M → Bool) (a b : Int) : (p2 k a b).length ≤ 9 := by
  have h1 := p1_len k a b (-1)
  have h2 := p1_len k a b 0
  have h3 := p1_len k a b 1
  have e : p2 k a b = p1 k a b (-1) ++ p1 k a b 0 ++ p1 k a b 1 := by simp [p2, u3]
  rw [e, List.length_append, List.length_append]
  omega
theorem p3_len (k : M → Bool) (a : Int) : (p3 k a).length ≤ 27 := by
  have h1 := p2_len k a (-1)
  have h2 := p2_len k a 0
  have h3 := p2_len k a 1
  have e : p3 k a = p2 k a (-1) ++ p2 k a 0 ++ p2 k a 1 := by simp [p3, u3]
  rw [e, List.length_append, List.length_append]
  omega
theorem kp2 {kd : Str} {k : M → Bool} (K : Kn kd k) {a b : Int} (ha : F3.Bd 3 a) (hb : F3.Bd 3 b) (acc : List M) (hl : acc.length ≤ 500) :
    forD (gNm 4) l__law_keeping_2 (u3.map .int) [some (.sh (.str kd)), some (.bo (acc.map M.D)), some (.sh (.int a)), some (.sh (.int b)), none, none] = some (Out.nx [some (.sh (.str kd)), some (.bo ((acc ++ p2 k a b).map M.D)), some (.sh (.int a)), some (.sh (.int b)), none, none]) :=
  lvl (n := 600) (f := fun acc => [some (.sh (.str kd)), some (.bo (acc.map M.D)), some (.sh (.int a)), some (.sh (.int b)), none, none]) (p := p1 k a b) (fun c hc acc hl => by
    have e := kp1 K ha hb (u3_bd c hc) u3 u3_bd acc (by have : u3.length = 3 := rfl; omega)
    have r := rng_m
    simp only [gNm, Option.bind_some, List.set]
    rw [show (u3.map (M.mk a b c)).filter (okM k) = p1 k a b c from rfl] at e
    simp [l__law_keeping_2, r, e]) 3 (fun c => p1_len k a b c) acc (by omega)
theorem kp3 {kd : Str} {k : M → Bool} (K : Kn kd k) {a : Int} (ha : F3.Bd 3 a) (acc : List M) (hl : acc.length ≤ 300) :
    forD (gNm 3) l__law_keeping_3 (u3.map .int) [some (.sh (.str kd)), some (.bo (acc.map M.D)), some (.sh (.int a)), none, none, none] = some (Out.nx [some (.sh (.str kd)), some (.bo ((acc ++ p3 k a).map M.D)), some (.sh (.int a)), none, none, none]) :=
  lvl (n := 400) (f := fun acc => [some (.sh (.str kd)), some (.bo (acc.map M.D)), some (.sh (.int a)), none, none, none]) (p := p2 k a) (fun b hb acc hl => by
    have e := kp2 K ha (u3_bd b hb) acc (by omega)
    have r := rng_m
    simp [l__law_keeping_3, r, e]) 9 (fun b => p2_len k a b) acc (by omega)
theorem kp4 {kd : Str} {k : M → Bool} (K : Kn kd k) (acc : List M) (hl : acc.length ≤ 100) :
    forD (gNm 2) l__law_keeping_4 (u3.map .int) [some (.sh (.str kd)), some (.bo (acc.map M.D)), none, none, none, none] = some (Out.nx [some (.sh (.str kd)), some (.bo ((acc ++ p4 k).map M.D)), none, none, none, none]) :=
  lvl (n := 300) (f := fun acc => [some (.sh (.str kd)), some (.bo (acc.map M.D)), none, none, none, none]) (p := p3 k) (fun a ha acc hl => by
    have e := kp3 K (u3_bd a ha) acc (by omega)
    have r := rng_m
    simp [l__law_keeping_4, r, e]) 27 (fun a => p3_len k a) acc (by omega)
theorem e_keeping {kd : Str} {k : M → Bool} (K : Kn kd k) : f__law_keeping [.str kd] = some (.fr ((p4 k).map M.D)) := by
  have e := kp4 K [] (by decide)
  have r := rng_m
  rw [List.nil_append] at e
  have e0 : ([] : List M).map M.D = [] := rfl
  rw [e0] at e
  simp [f__law_keeping, b__law_keeping, r, e]
theorem e_keepS : f__law_keeping [.str "square"] = some (.fr (kD.map M.D)) := by rw [e_keeping kn_S, p4_S]
theorem e_keepH : f__law_keeping [.str "hexagon"] = some (.fr (kN.map M.D)) := by rw [e_keeping kn_H, p4_H]
end Lk77
set_option maxRecDepth 100000
set_option maxHeartbeats 1000000
/-! Gk: turns whose numbers are at most 1000; plain Lean -/
namespace Gr
open PySem L2 F3
def leb (m : M) : Bool := decide (m.a.natAbs ≤ 1000) && decide (m.b.natAbs ≤ 1000) && decide (m.c.natAbs ≤ 1000) && decide (m.d.natAbs ≤ 1000)
theorem leb_all {m : M} (h : leb m = true) : m.a.natAbs ≤ 1000 ∧ m.b.natAbs ≤ 1000 ∧ m.c.natAbs ≤ 1000 ∧ m.d.natAbs ≤ 1000 := by
  unfold leb at h
  simp only [Bool.and_eq_true, decide_eq_true_eq] at h
  exact ⟨h.1.1.1, h.1.1.2, h.1.2, h.2⟩
theorem leb_of {m : M} (h1 : m.a.natAbs ≤ 1000) (h2 : m.b.natAbs ≤ 1000) (h3 : m.c.natAbs ≤ 1000) (h4 : m.d.natAbs ≤ 1000) : leb m = true := by
  unfold leb
  rw [decide_eq_true h1, decide_eq_true h2, decide_eq_true h3, decide_eq_true h4]
  rfl
theorem leb_bd {m : M} (h : leb m = true) : m.bd 10 := by
  obtain ⟨h1, h2, h3, h4⟩ := leb_all h
  unfold M.bd F3.Bd
  omega
theorem bd9_leb {m : M} (h : m.bd 9) : leb m = true := by
  obtain ⟨h1, h2, h3, h4⟩ := h
  unfold F3.Bd at h1 h2 h3 h4
  exact leb_of (by omega) (by omega) (by omega) (by omega)
def shr (t : Nat) : M := ⟨1, (t : Int) - 30, 0, 1⟩
theorem shr_led : ∀ t ∈ List.range 61, (kD ++ kN).all (fun m => leb (M.by_ (shr t) m)) = true := by decide +kernel
theorem shr_bd : ∀ t ∈ List.range 61, bdb 5 (shr t) = true := by decide +kernel
def nines : List Int := [-9, -8, -7, -6, -5, -4, -3, -2, -1, 0, 1, 2, 3, 4, 5, 6, 7, 8, 9]
theorem in_nines {x : Int} (h0 : -9 ≤ x) (h1 : x ≤ 9) : x ∈ nines := by
  simp only [nines, List.mem_cons, List.not_mem_nil, or_false]
  omega
theorem nine_led : ∀ x ∈ nines, ∀ y ∈ nines, ∀ z ∈ nines, ∀ n ∈ List.range 4, leb (evenF (t3 x y z) n) = true := by decide +kernel
theorem nine_le {t : Nat → Int} (ht : ∀ k, t k ∈ nines) {n : Nat} (hn : n ≤ 3) : leb (evenF t n) = true := by
  rw [evenF_t3 t hn]
  exact nine_led _ (ht 0) _ (ht 1) _ (ht 2) n (List.mem_range.mpr (by omega))
end Gr
set_option maxRecDepth 100000
set_option maxHeartbeats 1000000
namespace Lk77
open PySem L2 F3 Gr
theorem dets : ∀ m ∈ kD ++ kN, m.det = 1 ∨ m.det = -1 := by decide
theorem bdKs : ∀ m ∈ kD ++ kN, bdb 3 m = true := by decide
/-- what is used of the kind that was drawn -/
structure Drn (kd : Str) (k : M → Bool) (K : List M) : Prop where
  kn : Kn kd k
  keep : f__law_keeping [.str kd] = some (.fr (K.map M.D))
  sub : ∀ m ∈ K, m ∈ kD ++ kN
  fits : ∀ m ∈ K, k m = true
  mul : ∀ x ∈ K, ∀ y ∈ K, x * y ∈ K
  one : M.one ∈ K
  nd : K.Nodup
  len : 0 < K.length ∧ K.length ≤ 12
theorem drn_S : Drn "square" kS kD := ⟨kn_S, e_keepS, fun m h => List.mem_append.mpr (Or.inl h), by decide, by decide, by decide, by decide, by decide⟩
theorem drn_H : Drn "hexagon" kH kN := ⟨kn_H, e_keepH, fun m h => List.mem_append.mpr (Or.inr h), by decide, by decide, by decide, by decide, by decide⟩
theorem drn_at {d : Int} : ∃ (kd : Str) (k : M → Bool) (K : List M), atI [PyData.str "square", PyData.str "hexagon"] (d % 2) = some (.str kd) ∧ Drn kd k K := by
  rcases (by omega : d % 2 = 0 ∨ d % 2 = 1) with h | h <;> rw [h]
  · exact ⟨_, _, _, rfl, drn_S⟩
  · exact ⟨_, _, _, rfl, drn_H⟩
theorem mem_at {ms : List M} {i : Int} (h0 : 0 ≤ i) (h1 : i < ms.length) : ∃ s ∈ ms, atI (ms.map M.D) i = some s.D := by
  obtain ⟨k, rfl⟩ : ∃ k : Nat, i = (k : Int) := ⟨i.toNat, by omega⟩
  have hk : k < ms.length := by omega
  refine ⟨ms[k], List.getElem_mem hk, ?_⟩
  rw [atI_nat', List.getElem?_map, List.getElem?_eq_getElem hk]
  rfl
theorem placed_loop {ds : List Int} (dl : 12 ≤ ds.length) {K : List M} {h : M} (hs : ∀ m ∈ K, m ∈ kD ++ kN) (hK : 0 < K.length) (bh : h.bd 67) (q2 : Option Res) (n : Nat) (hn : n ≤ 4) :
    ∃ ms : List M, forD (gNm 6) l__law_placed_moves_1 (rangeD 0 1 n) [some (.sh (.list (ds.map .int))), some (.sh (.int 0)), q2, some (.bo (K.map M.D)), some (.sh h.D), some (.bo []), none] = some (.nx [some (.sh (.list (ds.map .int))), some (.sh (.int 0)), q2, some (.bo (K.map M.D)), some (.sh h.D), some (.bo (ms.map M.D)), none]) ∧ (∀ m ∈ ms, ∃ x ∈ K, m = M.by_ h x) ∧ ms.length = n := by
  obtain ⟨ρ', e, ms, rfl, h1, h2⟩ := for_inv (g := gNm 6) (b := l__law_placed_moves_1) (fun k ρ => ∃ ms : List M, ρ = [some (.sh (.list (ds.map .int))), some (.sh (.int 0)), q2, some (.bo (K.map M.D)), some (.sh h.D), some (.bo (ms.map M.D)), none] ∧ (∀ m ∈ ms, ∃ x ∈ K, m = M.by_ h x) ∧ ms.length = k) (rangeD 0 1 n) 0 [some (.sh (.list (ds.map .int))), some (.sh (.int 0)), q2, some (.bo (K.map M.D)), some (.sh h.D), some (.bo []), none] (fun k d ρ hk hI => by
    obtain ⟨hkn, rfl⟩ := rng_get hk
    rw [Nat.zero_add] at *
    obtain ⟨ms, rfl, h1, h2⟩ := hI
    have e5 : atI (ds.map PyData.int) (5 + (k : Int)) = some (.int (a0 ds (5 + k))) := by
      rw [show (5 + (k : Int)) = ((5 + k : Nat) : Int) by omega, atI_nat', ints_at ds (by omega)]
    obtain ⟨w, hw⟩ : ∃ w : Int, w = a0 ds (5 + k) % (K.length : Int) := ⟨_, rfl⟩
    obtain ⟨x, hx, ex⟩ := mem_at (ms := K) (i := w) (by rw [hw]; exact Int.emod_nonneg _ (by omega)) (by rw [hw]; exact Int.emod_lt_of_pos _ (by omega))
    have eb := e_law_by (bdb_bd (bdKs x (hs x hx))) bh (by decide)
    have hl : ms.length < 1000000 := by omega
    refine ⟨_, ?_, ms ++ [M.by_ h x], rfl, ?_, by simp [h2]⟩
    · simp [l__law_placed_moves_1, e5, hK, ← hw, ex, eb, sApp_run, hl]
    · intro m hm
      rcases List.mem_append.mp hm with hm | hm
      · exact h1 m hm
      · exact ⟨x, hx, List.mem_singleton.mp hm⟩) ⟨[], rfl, by simp, rfl⟩
  rw [rangeD_len, Nat.zero_add] at h2
  exact ⟨ms, e, h1, h2⟩
theorem e_placed {ds : List Int} (dl : 12 ≤ ds.length) : ∃ (kd : Str) (k : M → Bool) (K : List M) (h : M) (ms : List M), f__law_placed_moves [.list (ds.map .int), .int 0] = some (.sh (.tuple [.str kd, h.D, .list (ms.map M.D)])) ∧ Drn kd k K ∧ h.det = 1 ∧ h.bd 67 ∧ (∀ m ∈ ms, ∃ x ∈ K, m = M.by_ h x) ∧ (∀ x ∈ kD ++ kN, leb (M.by_ h x) = true) ∧ ms.length ≤ 4 := by
  have at_k : ∀ k : Nat, k < 12 → atI (ds.map PyData.int) (k : Int) = some (.int (a0 ds k)) := fun k hk => by rw [atI_nat', ints_at ds (by omega)]
  have x0 : atI (ds.map PyData.int) 0 = some (.int (a0 ds 0)) := at_k 0 (by decide)
  have x1 : atI (ds.map PyData.int) 1 = some (.int (a0 ds 1)) := at_k 1 (by decide)
  obtain ⟨kd, k, K, hat, D⟩ := drn_at (d := a0 ds 0)
  have dv2 : divOk 2 := divOk_of (n := 20) (by decide) (by decide) (by decide)
  have dv50 : divOk 50 := divOk_of (n := 20) (by decide) (by decide) (by decide)
  have dv10 : divOk 10 := divOk_of (n := 20) (by decide) (by decide) (by decide)
  obtain ⟨n, hn⟩ : ∃ n : Nat, a0 ds 0 / 2 % 4 = (n : Int) := ⟨(a0 ds 0 / 2 % 4).toNat, by omega⟩
  have n3 : n ≤ 3 := by omega
  obtain ⟨eh, ebd⟩ := e_evenS (ds := ds) (at_ := 1) n (by omega) (by omega) (mo := 2) (by decide) (by decide)
  rw [show ((1 : Nat) : Int) = 1 from rfl] at eh
  obtain ⟨t, ht⟩ : ∃ t : Nat → Int, t = fun k => a0 ds (1 + k) % (2 * 2 + 1) - 2 := ⟨_, rfl⟩
  have ht5 : ∀ k, t k ∈ five := fun k => by rw [ht]; exact mod_five _
  rw [← ht] at eh ebd
  obtain ⟨h0, hh0⟩ : ∃ h0, h0 = evenF t n := ⟨_, rfl⟩
  have le0 : ∀ x ∈ kD ++ kN, leb (M.by_ h0 x) = true := fun x hx => by rw [hh0]; exact bd9_leb (led_bd ht5 n3 hx)
  have de0 : h0.det = 1 := by rw [hh0]; exact evenF_det _ _
  rw [← hh0] at eh ebd
  obtain ⟨t1, ht1, ht1b⟩ : ∃ t1 : Nat, t1 < 61 ∧ a0 ds 1 % 61 = (t1 : Int) := ⟨(a0 ds 1 % 61).toNat, by omega, by omega⟩
  obtain ⟨h, hh⟩ : ∃ h : M, h = if a0 ds 0 / 50 % 8 = 3 then shr t1 else h0 := ⟨_, rfl⟩
  have de : h.det = 1 := by
    rw [hh]
    split
    · simp [shr, M.det]
    · exact de0
  have bh : h.bd 67 := by
    rw [hh]
    split
    · exact (bdb_bd (shr_bd t1 (List.mem_range.mpr ht1))).mono (by decide)
    · exact ebd
  have le : ∀ x ∈ kD ++ kN, leb (M.by_ h x) = true := by
    rw [hh]
    split
    · exact fun x hx => List.all_eq_true.mp (shr_led t1 (List.mem_range.mpr ht1)) x hx
    · exact le0
  obtain ⟨n5, hn5⟩ : ∃ n : Nat, a0 ds 0 / 10 % 5 = (n : Int) := ⟨(a0 ds 0 / 10 % 5).toNat, by omega⟩
  have n54 : n5 ≤ 4 := by omega
  have rk : rOk (n5 : Int) := rOk_nat (by omega)
  obtain ⟨ms, el, h1, h2⟩ := placed_loop dl D.sub D.len.1 bh (some (.sh (.str kd))) n5 n54
  refine ⟨kd, k, K, h, ms, ?_, D, de, bh, h1, le, by omega⟩
  have s0 : (sSet 2 (eBin ixR (eLst (aCons (eC (.str "square")) (aCons (eC (.str "hexagon")) aNil))) (eBin modR (eBin ixR (eVar 0) (eVar 1)) (eC (.int 2))))) [some (.sh (.list (ds.map .int))), some (.sh (.int 0)), none, none, none, none, none] = some (.nx [some (.sh (.list (ds.map .int))), some (.sh (.int 0)), some (.sh (.str kd)), none, none, none, none]) := by
    simp [x0, hat]
  have s1 : (sSet 3 (eFn f__law_keeping (aCons (eVar 2) aNil))) [some (.sh (.list (ds.map .int))), some (.sh (.int 0)), some (.sh (.str kd)), none, none, none, none] = some (.nx [some (.sh (.list (ds.map .int))), some (.sh (.int 0)), some (.sh (.str kd)), some (.bo (K.map M.D)), none, none, none]) := by
    simp [D.keep]
  have s2 : (sSet 4 (eFn f__law_even (aCons (eVar 0) (aCons (eBin addR (eVar 1) (eC (.int 1))) (aCons (eBin modR (eBin fdivR (eBin ixR (eVar 0) (eVar 1)) (eC (.int 2))) (eC (.int 4))) (aCons (eC (.int 2)) aNil)))))) [some (.sh (.list (ds.map .int))), some (.sh (.int 0)), some (.sh (.str kd)), some (.bo (K.map M.D)), none, none, none] = some (.nx [some (.sh (.list (ds.map .int))), some (.sh (.int 0)), some (.sh (.str kd)), some (.bo (K.map M.D)), some (.sh h0.D), none, none]) := by
    simp [x0, dv2, hn, eh]
  have s3 : (sIf (tOf (eBin eqR (eBin modR (eBin fdivR (eBin ixR (eVar 0) (eVar 1)) (eC (.int 50))) (eC (.int 8))) (eC (.int 3))))
  (sSet 4 (eTup (aCons (eC (.int 1)) (aCons (eBin subR (eBin modR (eBin ixR (eVar 0) (eBin addR (eVar 1) (eC (.int 1)))) (eC (.int 61))) (eC (.int 30))) (aCons (eC (.int 0)) (aCons (eC (.int 1)) aNil))))))
  sPass) [some (.sh (.list (ds.map .int))), some (.sh (.int 0)), some (.sh (.str kd)), some (.bo (K.map M.D)), some (.sh h0.D), none, none] = some (.nx [some (.sh (.list (ds.map .int))), some (.sh (.int 0)), some (.sh (.str kd)), some (.bo (K.map M.D)), some (.sh h.D), none, none]) := by
    by_cases h8 : a0 ds 0 / 50 % 8 = 3
    · rw [if_pos h8] at hh
      subst hh
      simp [x0, x1, dv50, h8, ht1b, shr, M.D]
    · rw [if_neg h8] at hh
      subst hh
      simp [x0, dv50, h8]
  have s4 : (sSet 5 (eLst aNil)) [some (.sh (.list (ds.map .int))), some (.sh (.int 0)), some (.sh (.str kd)), some (.bo (K.map M.D)), some (.sh h.D), none, none] = some (.nx [some (.sh (.list (ds.map .int))), some (.sh (.int 0)), some (.sh (.str kd)), some (.bo (K.map M.D)), some (.sh h.D), some (.bo []), none]) := by
    simp
  have s5 : (sFo [6] (sPre [6] (sFor (itRng (aCons (eBin modR (eBin fdivR (eBin ixR (eVar 0) (eVar 1)) (eC (.int 10))) (eC (.int 5))) aNil)) (gNm 6)
  l__law_placed_moves_1))) [some (.sh (.list (ds.map .int))), some (.sh (.int 0)), some (.sh (.str kd)), some (.bo (K.map M.D)), some (.sh h.D), some (.bo []), none] = some (.nx [some (.sh (.list (ds.map .int))), some (.sh (.int 0)), some (.sh (.str kd)), some (.bo (K.map M.D)), some (.sh h.D), some (.bo (ms.map M.D)), none]) := by
    simp [x0, dv10, hn5, rk, el]
  have s6 : (sFrz [5] (sRet (eTup (aCons (eVar 2) (aCons (eVar 4) (aCons (eVar 5) aNil)))))) [some (.sh (.list (ds.map .int))), some (.sh (.int 0)), some (.sh (.str kd)), some (.bo (K.map M.D)), some (.sh h.D), some (.bo (ms.map M.D)), none] = some (.rt (.sh (.tuple [.str kd, h.D, .list (ms.map M.D)]))) := by
    simp [frz1]
  have e0 : f__law_placed_moves [.list (ds.map .int), .int 0] = finD (b__law_placed_moves [some (.sh (.list (ds.map .int))), some (.sh (.int 0)), none, none, none, none, none]) := fnD_2
  rw [e0, b__law_placed_moves, seq_run s0, seq_run s1, seq_run s2, seq_run s3, seq_run s4, seq_run s5, s6]
  rfl
end Lk77
set_option maxRecDepth 100000
set_option maxHeartbeats 1000000
namespace Lk77
open PySem L2 F3 Gr
def mir (m : M) : M := ⟨m.a, m.b, -m.c, -m.d⟩
def qrt (m : M) : M := ⟨m.c, m.d, -m.a, -m.b⟩
def Gm (m : M) : Prop := (m.det = 1 ∨ m.det = -1) ∧ leb m = true
theorem gm_mir {m : M} (h : Gm m) : Gm (mir m) := by
  obtain ⟨h1, h2⟩ := h
  obtain ⟨l1, l2, l3, l4⟩ := leb_all h2
  refine ⟨?_, leb_of l1 l2 (by show (-m.c).natAbs ≤ _; omega) (by show (-m.d).natAbs ≤ _; omega)⟩
  show m.a * -m.d - m.b * -m.c = 1 ∨ m.a * -m.d - m.b * -m.c = -1
  unfold M.det at h1
  rw [Int.mul_neg, Int.mul_neg]
  omega
theorem gm_qrt {m : M} (h : Gm m) : Gm (qrt m) := by
  obtain ⟨h1, h2⟩ := h
  obtain ⟨l1, l2, l3, l4⟩ := leb_all h2
  refine ⟨?_, leb_of l3 l4 (by show (-m.a).natAbs ≤ _; omega) (by show (-m.b).natAbs ≤ _; omega)⟩
  show m.c * -m.b - m.d * -m.a = 1 ∨ m.c * -m.b - m.d * -m.a = -1
  unfold M.det at h1
  rw [Int.mul_neg, Int.mul_neg, Int.mul_comm m.c, Int.mul_comm m.d]
  omega
theorem world_loop {ds : List Int} (dl : ds.length = 30) (q1 q2 q3 : Option Res) {most : Int} (hm : most = 3 ∨ most = 9) (n : Nat) (hn : n ≤ 4) :
    ∃ ms : List M, forD (gNm 7) l__law_world_1 (rangeD 0 1 n) [some (.sh (.list (ds.map .int))), q1, q2, q3, some (.sh (.int n)), some (.sh (.int most)), some (.bo []), none, none] = some (.nx [some (.sh (.list (ds.map .int))), q1, q2, q3, some (.sh (.int n)), some (.sh (.int most)), some (.bo (ms.map M.D)), none, none]) ∧ (∀ m ∈ ms, Gm m) ∧ ms.length = n := by
  obtain ⟨ρ', e, ms, rfl, h1, h2⟩ := for_inv (g := gNm 7) (b := l__law_world_1) (fun k ρ => ∃ ms : List M, ρ = [some (.sh (.list (ds.map .int))), q1, q2, q3, some (.sh (.int n)), some (.sh (.int most)), some (.bo (ms.map M.D)), none, none] ∧ (∀ m ∈ ms, Gm m) ∧ ms.length = k) (rangeD 0 1 n) 0 [some (.sh (.list (ds.map .int))), q1, q2, q3, some (.sh (.int n)), some (.sh (.int most)), some (.bo []), none, none] (fun k d ρ hk hI => by
    obtain ⟨hkn, rfl⟩ := rng_get hk
    rw [Nat.zero_add] at *
    obtain ⟨ms, rfl, h1, h2⟩ := hI
    have e11 : atI (ds.map PyData.int) 11 = some (.int (a0 ds 11)) := by
      rw [show (11 : Int) = ((11 : Nat) : Int) by omega, atI_nat', ints_at ds (by omega)]
    have e24 : atI (ds.map PyData.int) (24 + (k : Int)) = some (.int (a0 ds (24 + k))) := by
      rw [show (24 + (k : Int)) = ((24 + k : Nat) : Int) by omega, atI_nat', ints_at ds (by omega)]
    obtain ⟨z, hz⟩ : ∃ z, z = a0 ds (24 + k) := ⟨_, rfl⟩
    rw [← hz] at e24
    obtain ⟨p, hp⟩ : ∃ p : Nat, 1 + a0 ds 11 / 32 % 3 = (p : Int) := ⟨(1 + a0 ds 11 / 32 % 3).toNat, by omega⟩
    have p3 : p ≤ 3 := by omega
    obtain ⟨es, _⟩ := e_evenS (ds := ds) (at_ := 12 + 3 * k) p (by omega) (by omega) (mo := most) (by omega) (by omega)
    rw [show ((12 + 3 * k : Nat) : Int) = 12 + 3 * (k : Int) by omega] at es
    obtain ⟨m, hm_⟩ : ∃ m, m = evenF (fun j => a0 ds (12 + 3 * k + j) % (2 * most + 1) - most) p := ⟨_, rfl⟩
    rw [← hm_] at es
    have gm : Gm m := by
      rw [hm_]
      refine ⟨Or.inl (evenF_det _ _), nine_le (fun j => in_nines ?_ ?_) p3⟩
      · rcases hm with rfl | rfl <;> omega
      · rcases hm with rfl | rfl <;> omega
    have m3 : mulOk 3 (k : Int) := mulOk_of (show F3.Bd 3 3 by decide) (bd_of (n := 3) (by omega) (by omega)) (by decide)
    have dv32 : divOk 32 := divOk_of (n := 20) (by decide) (by decide) (by decide)
    have dv2 : divOk 2 := divOk_of (n := 20) (by decide) (by decide) (by decide)
    have hl : ms.length < 1000000 := by omega
    have hD : m.D = .tuple [.int m.a, .int m.b, .int m.c, .int m.d] := rfl
    have mem : ∀ w : M, Gm w → ∀ x ∈ ms ++ [w], Gm x := fun w hw x hx => by
      rcases List.mem_append.mp hx with hx | hx
      · exact h1 x hx
      · rw [List.mem_singleton.mp hx]; exact hw
    by_cases c0 : z % 2 = 0
    · by_cases c1 : z / 2 % 3 = 0
      · refine ⟨_, ?_, ms ++ [qrt (mir m)], rfl, mem _ (gm_qrt (gm_mir gm)), by simp [h2]⟩
        simp [l__law_world_1, e11, dv32, hp, m3, es, e24, dv2, c0, c1, hD, sApp_run, hl, mir, qrt, M.D]
      · refine ⟨_, ?_, ms ++ [mir m], rfl, mem _ (gm_mir gm), by simp [h2]⟩
        simp [l__law_world_1, e11, dv32, hp, m3, es, e24, dv2, c0, c1, hD, sApp_run, hl, mir, M.D]
    · by_cases c1 : z / 2 % 3 = 0
      · refine ⟨_, ?_, ms ++ [qrt m], rfl, mem _ (gm_qrt gm), by simp [h2]⟩
        simp [l__law_world_1, e11, dv32, hp, m3, es, e24, dv2, c0, c1, hD, sApp_run, hl, qrt, M.D]
      · refine ⟨_, ?_, ms ++ [m], rfl, mem _ gm, by simp [h2]⟩
        simp [l__law_world_1, e11, dv32, hp, m3, es, e24, dv2, c0, c1, sApp_run, hl]) ⟨[], rfl, by simp, rfl⟩
  rw [rangeD_len, Nat.zero_add] at h2
  exact ⟨ms, e, h1, h2⟩
theorem e_world {ds : List Int} (dl : ds.length = 30) : ∃ (ms : List M) (r : Res), f__law_world [.list (ds.map .int)] = some r ∧ (r = .sh (.list (ms.map M.D)) ∨ r = .fr (ms.map M.D)) ∧ (∀ m ∈ ms, Gm m) ∧ ms.length ≤ 4 := by
  have at_k : ∀ k : Nat, k < 30 → atI (ds.map PyData.int) (k : Int) = some (.int (a0 ds k)) := fun k hk => by rw [atI_nat', ints_at ds (by omega)]
  have x10 : atI (ds.map PyData.int) 10 = some (.int (a0 ds 10)) := at_k 10 (by decide)
  have x11 : atI (ds.map PyData.int) 11 = some (.int (a0 ds 11)) := at_k 11 (by decide)
  have x28 : atI (ds.map PyData.int) 28 = some (.int (a0 ds 28)) := at_k 28 (by decide)
  obtain ⟨kd, k, K, h, ms, ep, D, de, bh, hms, le, hl4⟩ := e_placed (ds := ds) (by omega)
  have gms : ∀ m ∈ ms, Gm m := fun m hm => by
    obtain ⟨x, hx, rfl⟩ := hms m hm
    exact ⟨by rw [M.by_det de]; exact dets x (D.sub x hx), le x (D.sub x hx)⟩
  have dv4 : divOk 4 := divOk_of (n := 20) (by decide) (by decide) (by decide)
  obtain ⟨n, hn⟩ : ∃ n : Nat, 1 + a0 ds 11 % 4 = (n : Int) := ⟨(1 + a0 ds 11 % 4).toNat, by omega⟩
  have n4 : n ≤ 4 := by omega
  have rk : rOk (n : Int) := rOk_nat (by omega)
  obtain ⟨most, hmo, hmost⟩ : ∃ most : Int, most = (if a0 ds 11 / 4 % 8 = 5 then 9 else 3) ∧ (most = 3 ∨ most = 9) := by
    refine ⟨_, rfl, ?_⟩
    split
    · exact Or.inr rfl
    · exact Or.inl rfl
  obtain ⟨fs, el, g1, g2⟩ := world_loop dl (some (.sh (.str kd))) (some (.sh h.D)) (some (.sh (.list (ms.map M.D)))) hmost n n4
  have e0 : f__law_world [.list (ds.map .int)] = finD (b__law_world [some (.sh (.list (ds.map .int))), none, none, none, none, none, none, none, none]) := fnD_1
  have s0 : (sUnp (gTp (gsC (gNm 1) (gsC (gNm 2) (gsC (gNm 3) gsN)))) (eFn f__law_placed_moves (aCons (eVar 0) (aCons (eC (.int 0)) aNil)))) [some (.sh (.list (ds.map .int))), none, none, none, none, none, none, none, none] = some (.nx [some (.sh (.list (ds.map .int))), some (.sh (.str kd)), some (.sh h.D), some (.sh (.list (ms.map M.D))), none, none, none, none, none]) := by
    simp [ep]
  by_cases c10 : a0 ds 10 % 4 = 3
  · have s1 : (sIf (tOf (eBin neR (eBin modR (eBin ixR (eVar 0) (eC (.int 10))) (eC (.int 4))) (eC (.int 3))))
    (sRet (eVar 3))
    sPass) [some (.sh (.list (ds.map .int))), some (.sh (.str kd)), some (.sh h.D), some (.sh (.list (ms.map M.D))), none, none, none, none, none] = some (.nx [some (.sh (.list (ds.map .int))), some (.sh (.str kd)), some (.sh h.D), some (.sh (.list (ms.map M.D))), none, none, none, none, none]) := by
      simp [x10, c10]
    have s2 : (sSet 4 (eBin addR (eC (.int 1)) (eBin modR (eBin ixR (eVar 0) (eC (.int 11))) (eC (.int 4))))) [some (.sh (.list (ds.map .int))), some (.sh (.str kd)), some (.sh h.D), some (.sh (.list (ms.map M.D))), none, none, none, none, none] = some (.nx [some (.sh (.list (ds.map .int))), some (.sh (.str kd)), some (.sh h.D), some (.sh (.list (ms.map M.D))), some (.sh (.int n)), none, none, none, none]) := by
      simp [x11, hn]
    have s3 : (sSet 5 (eC (.int 3))) [some (.sh (.list (ds.map .int))), some (.sh (.str kd)), some (.sh h.D), some (.sh (.list (ms.map M.D))), some (.sh (.int n)), none, none, none, none] = some (.nx [some (.sh (.list (ds.map .int))), some (.sh (.str kd)), some (.sh h.D), some (.sh (.list (ms.map M.D))), some (.sh (.int n)), some (.sh (.int 3)), none, none, none]) := by
      simp
    have s4 : (sIf (tOf (eBin eqR (eBin modR (eBin fdivR (eBin ixR (eVar 0) (eC (.int 11))) (eC (.int 4))) (eC (.int 8))) (eC (.int 5))))
    (sSet 5 (eC (.int 9)))
    sPass) [some (.sh (.list (ds.map .int))), some (.sh (.str kd)), some (.sh h.D), some (.sh (.list (ms.map M.D))), some (.sh (.int n)), some (.sh (.int 3)), none, none, none] = some (.nx [some (.sh (.list (ds.map .int))), some (.sh (.str kd)), some (.sh h.D), some (.sh (.list (ms.map M.D))), some (.sh (.int n)), some (.sh (.int most)), none, none, none]) := by
      by_cases h8 : a0 ds 11 / 4 % 8 = 5
      · rw [if_pos h8] at hmo
        subst hmo
        simp [x11, dv4, h8]
      · rw [if_neg h8] at hmo
        subst hmo
        simp [x11, dv4, h8]
    have s5 : (sSet 6 (eLst aNil)) [some (.sh (.list (ds.map .int))), some (.sh (.str kd)), some (.sh h.D), some (.sh (.list (ms.map M.D))), some (.sh (.int n)), some (.sh (.int most)), none, none, none] = some (.nx [some (.sh (.list (ds.map .int))), some (.sh (.str kd)), some (.sh h.D), some (.sh (.list (ms.map M.D))), some (.sh (.int n)), some (.sh (.int most)), some (.bo []), none, none]) := by
      simp
    have s6 : (sFo [7, 8] (sPre [7, 8] (sFor (itRng (aCons (eVar 4) aNil)) (gNm 7)
    l__law_world_1))) [some (.sh (.list (ds.map .int))), some (.sh (.str kd)), some (.sh h.D), some (.sh (.list (ms.map M.D))), some (.sh (.int n)), some (.sh (.int most)), some (.bo []), none, none] = some (.nx [some (.sh (.list (ds.map .int))), some (.sh (.str kd)), some (.sh h.D), some (.sh (.list (ms.map M.D))), some (.sh (.int n)), some (.sh (.int most)), some (.bo (fs.map M.D)), none, none]) := by
      simp [rk, el]
    rw [e0, b__law_world, seq_run s0, seq_run s1, seq_run s2, seq_run s3, seq_run s4, seq_run s5, seq_run s6]
    by_cases c28 : a0 ds 28 % 3 = 0
    · refine ⟨(ms ++ fs).take 4, _, ?_, Or.inr rfl, fun m hm => ?_, by rw [List.length_take]; omega⟩
      · have ct : cutD (ms.map M.D ++ fs.map M.D) none (some 4) = ((ms ++ fs).take 4).map M.D := by
          rw [show (some 4 : Option Int) = some ((4 : Nat) : Int) from rfl, cut_to, ← List.map_append, List.map_take]
        have hlen : ms.length + fs.length ≤ 1000000 := by omega
        simp [x28, c28, hlen, ct]
      · rcases List.mem_append.mp (List.mem_of_mem_take hm) with hm | hm
        · exact gms m hm
        · exact g1 m hm
    · refine ⟨fs, _, ?_, Or.inr rfl, g1, by omega⟩
      simp [x28, c28]
  · refine ⟨ms, _, ?_, Or.inl rfl, gms, hl4⟩
    rw [e0, b__law_world, seq_run s0]
    simp [x10, c10]
end Lk77
set_option maxRecDepth 100000
set_option maxHeartbeats 1000000
namespace Lk77
open PySem L2 F3 Gr
def tmax : Rh → Option Bool := (tOf (eBin gtR (eCall (mmR maxL) (aCons (eLc (itSeq (eVar 3)) (gNm 5) tYesD (eCall (on1 absR) (aCons (eVar 5) aNil)) [5]) aNil)) (eC (.int 1000))))
theorem lc_max (q0 q1 q2 q4 : Option Res) : ∀ ms : List M, (∀ m ∈ ms, Gm m) → lcD (gNm 3) tmax (eVar 3) [q0, q1, q2, none, q4, none] (ms.map M.D) = some []
  | [], _ => rfl
  | m :: ms, h => by
    have ih := lc_max q0 q1 q2 q4 ms fun x hx => h x (List.mem_cons_of_mem _ hx)
    obtain ⟨l1, l2, l3, l4⟩ := leb_all (h m List.mem_cons_self).2
    have ab : ∀ x : Int, x.natAbs ≤ 1000 → (if x < 0 then -x else x) ≤ 1000 := fun x hx => by split <;> omega
    have a1 := ab _ l1
    have a2 := ab _ l2
    have a3 := ab _ l3
    have a4 := ab _ l4
    have hm : ¬ (1000 < maxL [if m.a < 0 then -m.a else m.a, if m.b < 0 then -m.b else m.b, if m.c < 0 then -m.c else m.c, if m.d < 0 then -m.d else m.d]) := by
      simp only [maxL]
      omega
    rw [List.map_cons, lcD]
    have e : tmax [q0, q1, q2, some (.sh m.D), q4, none] = some false := by
      simp [tmax, M.D, lcD, wipeD, mmR]
      omega
    simp [e, ih]
theorem told_G {ms : List M} (h : ∀ m ∈ ms, Gm m) (hl : ms.length ≤ 4) : f__law_told [.list (ms.map M.D)] = some (.sh (.bool true)) := e_told (fun m hm => (h m hm).1) (fun m hm => leb_bd (h m hm).2) (by decide) hl
theorem gm_iff {m : M} : Gm m ↔ (decide (m.det = 1 ∨ m.det = -1) && leb m) = true := by
  unfold Gm
  rw [Bool.and_eq_true, decide_eq_true_eq]
theorem told_c (ms : List M) (h : (ms.all fun m => decide (m.det = 1 ∨ m.det = -1) && leb m) = true) (hl : ms.length ≤ 4) : f__law_told [.list (ms.map M.D)] = some (.sh (.bool true)) :=
  told_G (fun m hm => gm_iff.mpr (List.all_eq_true.mp h m hm)) hl
def small1 : List (List M) := [[], [⟨1, 0, 0, 1⟩], [⟨1, 1, 0, 1⟩], [⟨0, -1, 1, 1⟩, ⟨0, 1, 1, 0⟩], [⟨0, -1, 1, 0⟩, ⟨0, 1, 1, 0⟩], [⟨2, 1, 1, 1⟩]]
def small2 : List (List M) := [[⟨0, -1, 1, 0⟩, ⟨0, -1, 1, 1⟩], [⟨1, 0, 0, -1⟩, ⟨1, 1, 0, -1⟩], [⟨-1, 0, 0, -1⟩, ⟨1, 999, 0, -1⟩], [⟨0, -1, 1, -1⟩]]
def encL (s : List M) : PyData := .list (s.map M.D)
theorem loop2 (q0 q1 q2 q3 q5 : Option Res) : forD (gNm 4) l__law_part_one_2 (small1.map encL) [q0, q1, q2, q3, none, q5] = some (.nx [q0, q1, q2, q3, none, q5]) := by
  refine for_still _ fun d hd => ?_
  obtain ⟨s, hs, rfl⟩ := List.mem_map.mp hd
  have hc : ∀ s ∈ small1, (s.all fun m => decide (m.det = 1 ∨ m.det = -1) && leb m) = true ∧ s.length ≤ 4 := by decide
  have e := told_c s (hc s hs).1 (hc s hs).2
  simp [l__law_part_one_2, encL, e]
theorem loop3 (q0 q1 q2 q3 q5 : Option Res) : forD (gNm 4) l__law_part_one_3 (small2.map encL) [q0, q1, q2, q3, none, q5] = some (.nx [q0, q1, q2, q3, none, q5]) := by
  refine for_still _ fun d hd => ?_
  obtain ⟨s, hs, rfl⟩ := List.mem_map.mp hd
  have hc : ∀ s ∈ small2, (s.all fun m => decide (m.det = 1 ∨ m.det = -1) && leb m) = true ∧ s.length ≤ 4 := by decide
  have e := told_c s (hc s hs).1 (hc s hs).2
  simp [l__law_part_one_3, encL, e]
theorem loop1 {ms : List M} (h : ∀ m ∈ ms, Gm m) (q0 q1 q2 q4 q5 : Option Res) : forD (gNm 3) l__law_part_one_1 (ms.map M.D) [q0, q1, q2, none, q4, q5] = some (.nx [q0, q1, q2, none, q4, q5]) := by
  refine for_still _ fun d hd => ?_
  obtain ⟨m, hm, rfl⟩ := List.mem_map.mp hd
  have g := h m hm
  have e1 : f__law_told [.list [m.D]] = some (.sh (.bool true)) := told_G (ms := [m]) (fun x hx => by rw [List.mem_singleton.mp hx]; exact g) (by simp)
  have e2 : f__law_told [.list [m.D, .tuple [.int (-1), .int 0, .int 0, .int (-1)]]] = some (.sh (.bool true)) := told_G (ms := [m, ⟨-1, 0, 0, -1⟩]) (fun x hx => by
    rcases List.mem_cons.mp hx with rfl | hx
    · exact g
    · rw [List.mem_singleton.mp hx]; exact gm_iff.mpr (by decide)) (by simp)
  simp [l__law_part_one_1, e1, e2]
theorem pick_M (ms : List M) (lo hi st : Option Int) : pickD (ms.map M.D) lo hi st = (pickD ms lo hi st).map M.D := by
  unfold pickD
  rw [List.length_map]
  generalize sliceRange _ _ _ = ks
  induction ks with
  | nil => rfl
  | cons k ks ih =>
    rw [List.filterMap_cons, List.filterMap_cons, List.getElem?_map]
    cases ms[k]? <;> simp only [Option.map_none, Option.map_some, ih, List.map_cons]
theorem lists1 : [PyData.list [], .list [.tuple [.int 1, .int 0, .int 0, .int 1]], .list [.tuple [.int 1, .int 1, .int 0, .int 1]], .list [.tuple [.int 0, .int (-1), .int 1, .int 1], .tuple [.int 0, .int 1, .int 1, .int 0]], .list [.tuple [.int 0, .int (-1), .int 1, .int 0], .tuple [.int 0, .int 1, .int 1, .int 0]], .list [.tuple [.int 2, .int 1, .int 1, .int 1]]] = small1.map encL := rfl
theorem lists2 : [PyData.list [.tuple [.int 0, .int (-1), .int 1, .int 0], .tuple [.int 0, .int (-1), .int 1, .int 1]], .list [.tuple [.int 1, .int 0, .int 0, .int (-1)], .tuple [.int 1, .int 1, .int 0, .int (-1)]], .list [.tuple [.int (-1), .int 0, .int 0, .int (-1)], .tuple [.int 1, .int 999, .int 0, .int (-1)]], .list [.tuple [.int 0, .int (-1), .int 1, .int (-1)]]] = small2.map encL := rfl
theorem e_part_one (ns : List Int) : f__law_part_one [.list (ns.map .int)] = some (.sh (.bool true)) := by
  obtain ⟨ds, ed, dl, _⟩ := e_draws ns 30 (by decide)
  rw [show ((30 : Nat) : Int) = 30 from rfl] at ed
  obtain ⟨ms, r, ew, hr, hg, hl⟩ := e_world dl
  have l1 : ms.length ≤ 1000000 := by omega
  have t1 := told_G hg hl
  have t2 : f__law_told [.list ((pickD ms none none (some (-1))).map M.D)] = some (.sh (.bool true)) := told_G (fun m hm => hg m (pick_mem hm)) (by rw [rev_len _ (by omega)]; exact hl)
  have t3 : f__law_told [.list (((ms ++ ms).take 4).map M.D)] = some (.sh (.bool true)) := told_G (fun m hm => by
    rcases List.mem_append.mp (List.mem_of_mem_take hm) with hm | hm <;> exact hg m hm) (by rw [List.length_take]; omega)
  have ct0 : cutD (ms.map M.D ++ ms.map M.D) none (some 4) = List.take 4 (ms.map M.D ++ ms.map M.D) := by
    rw [show (some 4 : Option Int) = some ((4 : Nat) : Int) from rfl, cut_to]
  have cte : ((ms ++ ms).take 4).map M.D = List.take 4 (ms.map M.D ++ ms.map M.D) := by rw [← List.map_append, List.map_take]
  rw [cte] at t3
  have lmm : ms.length + ms.length ≤ 1000000 := by omega
  have lx := lc_max (some (.sh (.list (ns.map .int)))) (some (.sh (.list (ds.map .int)))) (some (.sh (.list (ms.map M.D)))) none ms hg
  unfold tmax at lx
  have f1 := loop1 hg (some (.sh (.list (ns.map .int)))) (some (.sh (.list (ds.map .int)))) (some (.sh (.list (ms.map M.D)))) none none
  have f2 := loop2 (some (.sh (.list (ns.map .int)))) (some (.sh (.list (ds.map .int)))) (some (.sh (.list (ms.map M.D)))) none none
  have f3 := loop3 (some (.sh (.list (ns.map .int)))) (some (.sh (.list (ds.map .int)))) (some (.sh (.list (ms.map M.D)))) none none
  rw [← lists1] at f2
  rw [← lists2] at f3
  have en : eqD (.list []) (.list []) = some true := by
    have h2 : SeqAt.shaped (.list []) = true := by simp [PyData.canLayAll0, PyData.depthAll]
    unfold eqD
    simp only [h2, and_self, if_true]
    simp [PyData.eqv, PyData.eqvAll]
  rcases hr with rfl | rfl
  · have s0 : (sSet 1 (eFn f__law_draws (aCons (eVar 0) (aCons (eC (.int 30)) aNil)))) [some (.sh (.list (ns.map .int))), none, none, none, none, none] = some (.nx [some (.sh (.list (ns.map .int))), some (.bo (ds.map .int)), none, none, none, none]) := by
      simp [ed]
    have s1 : (sFrz [1] (sSet 2 (eFn f__law_world (aCons (eVar 1) aNil)))) [some (.sh (.list (ns.map .int))), some (.bo (ds.map .int)), none, none, none, none] = some (.nx [some (.sh (.list (ns.map .int))), some (.sh (.list (ds.map .int))), some (.sh (.list (ms.map M.D))), none, none, none]) := by
      simp [ew, frz1]
    have s2 : (sFrz [2] (sIf (tOf (eBin neR (eLc (itSeq (eVar 2)) (gNm 3) (tOf (eBin gtR (eCall (mmR maxL) (aCons (eLc (itSeq (eVar 3)) (gNm 5) tYesD (eCall (on1 absR) (aCons (eVar 5) aNil)) [5]) aNil)) (eC (.int 1000)))) (eVar 3) [3]) (eLst aNil)))
      (sRet (eC (.bool false)))
      sPass)) [some (.sh (.list (ns.map .int))), some (.sh (.list (ds.map .int))), some (.sh (.list (ms.map M.D))), none, none, none] = some (.nx [some (.sh (.list (ns.map .int))), some (.sh (.list (ds.map .int))), some (.sh (.list (ms.map M.D))), none, none, none]) := by
      simp [frz1, lx, wipeD, en, l1]
    have s3 : (sFrz [2] (sIf (tOrD (tNotD (tOf (eFn f__law_told (aCons (eVar 2) aNil)))) (tOrD (tNotD (tOf (eFn f__law_told (aCons (eSl3 (eVar 2) oNo oNo (oIs (eUn negR (eC (.int 1))))) aNil)))) (tNotD (tOf (eFn f__law_told (aCons (eSl (eBin addR (eVar 2) (eVar 2)) oNo (oIs (eC (.int 4)))) aNil))))))
      (sRet (eC (.bool false)))
      sPass)) [some (.sh (.list (ns.map .int))), some (.sh (.list (ds.map .int))), some (.sh (.list (ms.map M.D))), none, none, none] = some (.nx [some (.sh (.list (ns.map .int))), some (.sh (.list (ds.map .int))), some (.sh (.list (ms.map M.D))), none, none, none]) := by
      simp [frz1, t1, t2, t3, ct0, lmm, pick_M]
    have s4 : (sFrz [2] (sFo [3] (sPre [3] (sFor (itSeq (eVar 2)) (gNm 3)
      l__law_part_one_1)))) [some (.sh (.list (ns.map .int))), some (.sh (.list (ds.map .int))), some (.sh (.list (ms.map M.D))), none, none, none] = some (.nx [some (.sh (.list (ns.map .int))), some (.sh (.list (ds.map .int))), some (.sh (.list (ms.map M.D))), none, none, none]) := by
      simp [frz1, f1]
    have s5 : (sFo [4] (sPre [4] (sFor (itSeq (eLst (aCons (eLst aNil) (aCons (eLst (aCons (eTup (aCons (eC (.int 1)) (aCons (eC (.int 0)) (aCons (eC (.int 0)) (aCons (eC (.int 1)) aNil))))) aNil)) (aCons (eLst (aCons (eTup (aCons (eC (.int 1)) (aCons (eC (.int 1)) (aCons (eC (.int 0)) (aCons (eC (.int 1)) aNil))))) aNil)) (aCons (eLst (aCons (eTup (aCons (eC (.int 0)) (aCons (eUn negR (eC (.int 1))) (aCons (eC (.int 1)) (aCons (eC (.int 1)) aNil))))) (aCons (eTup (aCons (eC (.int 0)) (aCons (eC (.int 1)) (aCons (eC (.int 1)) (aCons (eC (.int 0)) aNil))))) aNil))) (aCons (eLst (aCons (eTup (aCons (eC (.int 0)) (aCons (eUn negR (eC (.int 1))) (aCons (eC (.int 1)) (aCons (eC (.int 0)) aNil))))) (aCons (eTup (aCons (eC (.int 0)) (aCons (eC (.int 1)) (aCons (eC (.int 1)) (aCons (eC (.int 0)) aNil))))) aNil))) (aCons (eLst (aCons (eTup (aCons (eC (.int 2)) (aCons (eC (.int 1)) (aCons (eC (.int 1)) (aCons (eC (.int 1)) aNil))))) aNil)) aNil)))))))) (gNm 4)
      l__law_part_one_2))) [some (.sh (.list (ns.map .int))), some (.sh (.list (ds.map .int))), some (.sh (.list (ms.map M.D))), none, none, none] = some (.nx [some (.sh (.list (ns.map .int))), some (.sh (.list (ds.map .int))), some (.sh (.list (ms.map M.D))), none, none, none]) := by
      simp [f2]
    have s6 : (sFo [4] (sPre [4] (sFor (itSeq (eLst (aCons (eLst (aCons (eTup (aCons (eC (.int 0)) (aCons (eUn negR (eC (.int 1))) (aCons (eC (.int 1)) (aCons (eC (.int 0)) aNil))))) (aCons (eTup (aCons (eC (.int 0)) (aCons (eUn negR (eC (.int 1))) (aCons (eC (.int 1)) (aCons (eC (.int 1)) aNil))))) aNil))) (aCons (eLst (aCons (eTup (aCons (eC (.int 1)) (aCons (eC (.int 0)) (aCons (eC (.int 0)) (aCons (eUn negR (eC (.int 1))) aNil))))) (aCons (eTup (aCons (eC (.int 1)) (aCons (eC (.int 1)) (aCons (eC (.int 0)) (aCons (eUn negR (eC (.int 1))) aNil))))) aNil))) (aCons (eLst (aCons (eTup (aCons (eUn negR (eC (.int 1))) (aCons (eC (.int 0)) (aCons (eC (.int 0)) (aCons (eUn negR (eC (.int 1))) aNil))))) (aCons (eTup (aCons (eC (.int 1)) (aCons (eC (.int 999)) (aCons (eC (.int 0)) (aCons (eUn negR (eC (.int 1))) aNil))))) aNil))) (aCons (eLst (aCons (eTup (aCons (eC (.int 0)) (aCons (eUn negR (eC (.int 1))) (aCons (eC (.int 1)) (aCons (eUn negR (eC (.int 1))) aNil))))) aNil)) aNil)))))) (gNm 4)
      l__law_part_one_3))) [some (.sh (.list (ns.map .int))), some (.sh (.list (ds.map .int))), some (.sh (.list (ms.map M.D))), none, none, none] = some (.nx [some (.sh (.list (ns.map .int))), some (.sh (.list (ds.map .int))), some (.sh (.list (ms.map M.D))), none, none, none]) := by
      simp [f3]
    have s7 : (sFrz [2] (sRet (eFn f__law_told (aCons (eVar 2) aNil)))) [some (.sh (.list (ns.map .int))), some (.sh (.list (ds.map .int))), some (.sh (.list (ms.map M.D))), none, none, none] = some (.rt (.sh (.bool true))) := by
      simp [frz1, t1]
    have e0 : f__law_part_one [.list (ns.map .int)] = finD (b__law_part_one [some (.sh (.list (ns.map .int))), none, none, none, none, none]) := fnD_1
    rw [e0, b__law_part_one, seq_run s0, seq_run s1, seq_run s2, seq_run s3, seq_run s4, seq_run s5, seq_run s6, s7]
    rfl
  · have s0 : (sSet 1 (eFn f__law_draws (aCons (eVar 0) (aCons (eC (.int 30)) aNil)))) [some (.sh (.list (ns.map .int))), none, none, none, none, none] = some (.nx [some (.sh (.list (ns.map .int))), some (.bo (ds.map .int)), none, none, none, none]) := by
      simp [ed]
    have s1 : (sFrz [1] (sSet 2 (eFn f__law_world (aCons (eVar 1) aNil)))) [some (.sh (.list (ns.map .int))), some (.bo (ds.map .int)), none, none, none, none] = some (.nx [some (.sh (.list (ns.map .int))), some (.sh (.list (ds.map .int))), some (.bo (ms.map M.D)), none, none, none]) := by
      simp [ew, frz1]
    have s2 : (sFrz [2] (sIf (tOf (eBin neR (eLc (itSeq (eVar 2)) (gNm 3) (tOf (eBin gtR (eCall (mmR maxL) (aCons (eLc (itSeq (eVar 3)) (gNm 5) tYesD (eCall (on1 absR) (aCons (eVar 5) aNil)) [5]) aNil)) (eC (.int 1000)))) (eVar 3) [3]) (eLst aNil)))
      (sRet (eC (.bool false)))
      sPass)) [some (.sh (.list (ns.map .int))), some (.sh (.list (ds.map .int))), some (.bo (ms.map M.D)), none, none, none] = some (.nx [some (.sh (.list (ns.map .int))), some (.sh (.list (ds.map .int))), some (.sh (.list (ms.map M.D))), none, none, none]) := by
      simp [frz1, lx, wipeD, en, l1]
    have s3 : (sFrz [2] (sIf (tOrD (tNotD (tOf (eFn f__law_told (aCons (eVar 2) aNil)))) (tOrD (tNotD (tOf (eFn f__law_told (aCons (eSl3 (eVar 2) oNo oNo (oIs (eUn negR (eC (.int 1))))) aNil)))) (tNotD (tOf (eFn f__law_told (aCons (eSl (eBin addR (eVar 2) (eVar 2)) oNo (oIs (eC (.int 4)))) aNil))))))
      (sRet (eC (.bool false)))
      sPass)) [some (.sh (.list (ns.map .int))), some (.sh (.list (ds.map .int))), some (.sh (.list (ms.map M.D))), none, none, none] = some (.nx [some (.sh (.list (ns.map .int))), some (.sh (.list (ds.map .int))), some (.sh (.list (ms.map M.D))), none, none, none]) := by
      simp [frz1, t1, t2, t3, ct0, lmm, pick_M]
    have s4 : (sFrz [2] (sFo [3] (sPre [3] (sFor (itSeq (eVar 2)) (gNm 3)
      l__law_part_one_1)))) [some (.sh (.list (ns.map .int))), some (.sh (.list (ds.map .int))), some (.sh (.list (ms.map M.D))), none, none, none] = some (.nx [some (.sh (.list (ns.map .int))), some (.sh (.list (ds.map .int))), some (.sh (.list (ms.map M.D))), none, none, none]) := by
      simp [frz1, f1]
    have s5 : (sFo [4] (sPre [4] (sFor (itSeq (eLst (aCons (eLst aNil) (aCons (eLst (aCons (eTup (aCons (eC (.int 1)) (aCons (eC (.int 0)) (aCons (eC (.int 0)) (aCons (eC (.int 1)) aNil))))) aNil)) (aCons (eLst (aCons (eTup (aCons (eC (.int 1)) (aCons (eC (.int 1)) (aCons (eC (.int 0)) (aCons (eC (.int 1)) aNil))))) aNil)) (aCons (eLst (aCons (eTup (aCons (eC (.int 0)) (aCons (eUn negR (eC (.int 1))) (aCons (eC (.int 1)) (aCons (eC (.int 1)) aNil))))) (aCons (eTup (aCons (eC (.int 0)) (aCons (eC (.int 1)) (aCons (eC (.int 1)) (aCons (eC (.int 0)) aNil))))) aNil))) (aCons (eLst (aCons (eTup (aCons (eC (.int 0)) (aCons (eUn negR (eC (.int 1))) (aCons (eC (.int 1)) (aCons (eC (.int 0)) aNil))))) (aCons (eTup (aCons (eC (.int 0)) (aCons (eC (.int 1)) (aCons (eC (.int 1)) (aCons (eC (.int 0)) aNil))))) aNil))) (aCons (eLst (aCons (eTup (aCons (eC (.int 2)) (aCons (eC (.int 1)) (aCons (eC (.int 1)) (aCons (eC (.int 1)) aNil))))) aNil)) aNil)))))))) (gNm 4)
      l__law_part_one_2))) [some (.sh (.list (ns.map .int))), some (.sh (.list (ds.map .int))), some (.sh (.list (ms.map M.D))), none, none, none] = some (.nx [some (.sh (.list (ns.map .int))), some (.sh (.list (ds.map .int))), some (.sh (.list (ms.map M.D))), none, none, none]) := by
      simp [f2]
    have s6 : (sFo [4] (sPre [4] (sFor (itSeq (eLst (aCons (eLst (aCons (eTup (aCons (eC (.int 0)) (aCons (eUn negR (eC (.int 1))) (aCons (eC (.int 1)) (aCons (eC (.int 0)) aNil))))) (aCons (eTup (aCons (eC (.int 0)) (aCons (eUn negR (eC (.int 1))) (aCons (eC (.int 1)) (aCons (eC (.int 1)) aNil))))) aNil))) (aCons (eLst (aCons (eTup (aCons (eC (.int 1)) (aCons (eC (.int 0)) (aCons (eC (.int 0)) (aCons (eUn negR (eC (.int 1))) aNil))))) (aCons (eTup (aCons (eC (.int 1)) (aCons (eC (.int 1)) (aCons (eC (.int 0)) (aCons (eUn negR (eC (.int 1))) aNil))))) aNil))) (aCons (eLst (aCons (eTup (aCons (eUn negR (eC (.int 1))) (aCons (eC (.int 0)) (aCons (eC (.int 0)) (aCons (eUn negR (eC (.int 1))) aNil))))) (aCons (eTup (aCons (eC (.int 1)) (aCons (eC (.int 999)) (aCons (eC (.int 0)) (aCons (eUn negR (eC (.int 1))) aNil))))) aNil))) (aCons (eLst (aCons (eTup (aCons (eC (.int 0)) (aCons (eUn negR (eC (.int 1))) (aCons (eC (.int 1)) (aCons (eUn negR (eC (.int 1))) aNil))))) aNil)) aNil)))))) (gNm 4)
      l__law_part_one_3))) [some (.sh (.list (ns.map .int))), some (.sh (.list (ds.map .int))), some (.sh (.list (ms.map M.D))), none, none, none] = some (.nx [some (.sh (.list (ns.map .int))), some (.sh (.list (ds.map .int))), some (.sh (.list (ms.map M.D))), none, none, none]) := by
      simp [f3]
    have s7 : (sFrz [2] (sRet (eFn f__law_told (aCons (eVar 2) aNil)))) [some (.sh (.list (ns.map .int))), some (.sh (.list (ds.map .int))), some (.sh (.list (ms.map M.D))), none, none, none] = some (.rt (.sh (.bool true))) := by
      simp [frz1, t1]
    have e0 : f__law_part_one [.list (ns.map .int)] = finD (b__law_part_one [some (.sh (.list (ns.map .int))), none, none, none, none, none]) := fnD_1
    rw [e0, b__law_part_one, seq_run s0, seq_run s1, seq_run s2, seq_run s3, seq_run s4, seq_run s5, seq_run s6, s7]
    rfl
end Lk77
set_option maxRecDepth 100000
set_option maxHeartbeats 1000000
namespace Lk77
open PySem L2 F3 Gr
theorem kn_gd {kd : Str} {k : M → Bool} (K : Kn kd k) : Gd (.str kd) := by
  rcases K.own with ⟨rfl, _⟩ | ⟨rfl, _⟩
  · exact gd_str "square" (by decide)
  · exact gd_str "hexagon" (by decide)
theorem e_told_two {n : Nat} {S : List M} (g : Grp S) (h : ∀ x ∈ S, x.bd n) (hn : n ≤ 140) (hl : S.length ≤ 12) : f__law_told_two [.list (S.map M.D)] = some (.sh (.bool true)) := by
  obtain ⟨kd, k, m, K, es, dm, bm, hall, hc⟩ := e_standard g h hn hl
  have l1 : S.length ≤ 1000000 := by omega
  have eq := eq_D6 S
  have bI : m.bd IB := bm.mono (by decide)
  have gk := kn_gd K
  have r1 := e_law_right (S := S) (n := n) (fun x hx => ⟨h x hx, g.det x hx⟩) (by omega) gk (gd_D6 bI)
  have r2 := e_shows (S := S) (n := n) h (by omega) (by omega) gk (gd_D6 bI)
  rw [rgt_ok K dm hall] at r1 r2
  have ss : f__law_same 24 [.str kd, .str kd] = some (.sh (.bool true)) := by
    have := e_same_str 23 (.str kd) kd
    rw [this]
    simp [isS]
  have l3 : (S.length : Int) % 3 = 0 ↔ S.length % 3 = 0 := by omega
  have s0 : (sSet 1 (eLc (itSeq (eVar 0)) (gNm 4) tYesD (eFn f__law_plain (aCons (eVar 4) aNil)) [4])) [some (.sh (.list (S.map M.D))), none, none, none, none] = some (.nx [some (.sh (.list (S.map M.D))), some (.bo (S.map M.D6)), none, none, none]) := by
    have lp := lc_plain (q := [some (.sh (.list (S.map M.D))), none, none, none, none]) (i := 4) (show 4 < 5 by decide) S
    simp [lp, l1, wipeD]
  have s1 : (sFrz [1] (sSet 2 (eFn f_standard_group (aCons (eVar 1) aNil)))) [some (.sh (.list (S.map M.D))), some (.bo (S.map M.D6)), none, none, none] = some (.nx [some (.sh (.list (S.map M.D))), some (.sh (.list (S.map M.D6))), some (.sh (.tuple [.str kd, m.D6])), none, none]) := by
    simp [frz1, es]
  have s2 : (sIf (tOrD (tOf (eBin neR (eVar 1) (eLc (itSeq (eVar 0)) (gNm 4) tYesD (eFn f__law_plain (aCons (eVar 4) aNil)) [4]))) (tOrD (tNotD (tOf (eIsi .tuple (eVar 2)))) (tOf (eBin neR (eCall (on1 lenR) (aCons (eVar 2) aNil)) (eC (.int 2))))))
  (sRet (eC (.bool false)))
  sPass) [some (.sh (.list (S.map M.D))), some (.sh (.list (S.map M.D6))), some (.sh (.tuple [.str kd, m.D6])), none, none] = some (.nx [some (.sh (.list (S.map M.D))), some (.sh (.list (S.map M.D6))), some (.sh (.tuple [.str kd, m.D6])), none, none]) := by
    have lp := lc_plain (q := [some (.sh (.list (S.map M.D))), some (.sh (.list (S.map M.D6))), some (.sh (.tuple [.str kd, m.D6])), none, none]) (i := 4) (show 4 < 5 by decide) S
    simp [lp, l1, wipeD, eq]
  have s3 : (sSet 3 (eC (.str "square"))) [some (.sh (.list (S.map M.D))), some (.sh (.list (S.map M.D6))), some (.sh (.tuple [.str kd, m.D6])), none, none] = some (.nx [some (.sh (.list (S.map M.D))), some (.sh (.list (S.map M.D6))), some (.sh (.tuple [.str kd, m.D6])), some (.sh (.str "square")), none]) := by
    simp
  have s4 : (sIf (tOf (eBin eqR (eBin modR (eCall (on1 lenR) (aCons (eVar 0) aNil)) (eC (.int 3))) (eC (.int 0))))
  (sSet 3 (eC (.str "hexagon")))
  sPass) [some (.sh (.list (S.map M.D))), some (.sh (.list (S.map M.D6))), some (.sh (.tuple [.str kd, m.D6])), some (.sh (.str "square")), none] = some (.nx [some (.sh (.list (S.map M.D))), some (.sh (.list (S.map M.D6))), some (.sh (.tuple [.str kd, m.D6])), some (.sh (.str kd)), none]) := by
    rcases hc with ⟨_, rfl, h3, _⟩ | ⟨_, rfl, h3, _⟩
    · have h3 := l3.mpr h3
      simp [h3]
    · have h3 : ¬ ((S.length : Int) % 3 = 0) := fun z => h3 (l3.mp z)
      simp [h3]
  have s5 : (sIf (tOrD (tNotD (tOf (eFn (f__law_same 24) (aCons (eBin ixR (eVar 2) (eC (.int 0))) (aCons (eVar 3) aNil))))) (tNotD (tOf (eFn f__law_right_standard (aCons (eVar 0) (aCons (eBin ixR (eVar 2) (eC (.int 0))) (aCons (eBin ixR (eVar 2) (eC (.int 1))) aNil)))))))
  (sRet (eC (.bool false)))
  sPass) [some (.sh (.list (S.map M.D))), some (.sh (.list (S.map M.D6))), some (.sh (.tuple [.str kd, m.D6])), some (.sh (.str kd)), none] = some (.nx [some (.sh (.list (S.map M.D))), some (.sh (.list (S.map M.D6))), some (.sh (.tuple [.str kd, m.D6])), some (.sh (.str kd)), none]) := by
    simp [ss, r1]
  have s6 : (sFrz [1] (sRet (eBin (isR false) (eFn f_shows_standard (aCons (eVar 1) (aCons (eBin ixR (eVar 2) (eC (.int 0))) (aCons (eBin ixR (eVar 2) (eC (.int 1))) aNil)))) (eC (.bool true))))) [some (.sh (.list (S.map M.D))), some (.sh (.list (S.map M.D6))), some (.sh (.tuple [.str kd, m.D6])), some (.sh (.str kd)), none] = some (.rt (.sh (.bool true))) := by
    simp [frz1, r2]
  have e0 : f__law_told_two [.list (S.map M.D)] = finD (b__law_told_two [some (.sh (.list (S.map M.D))), none, none, none, none]) := fnD_1
  rw [e0, b__law_told_two, seq_run s0, seq_run s1, seq_run s2, seq_run s3, seq_run s4, seq_run s5, s6]
  rfl
/-! ### the judge on the law's papers -/
structure Pr (p : PyData) : Prop where
  two : ∃ u v, p = .tuple [u, v] ∧ Sd 20 10 u ∧ Sd 320 10 v
theorem e_same_b (b : Bool) : f__law_same 24 [.bool b, .bool b] = some (.sh (.bool true)) := by
  have := e_same_bool 23 b b
  rw [this]
  simp
theorem judged_step {n : Nat} {S : List M} (hS : ∀ x ∈ S, x.bd n ∧ (x.det = 1 ∨ x.det = -1)) (hn : n ≤ 1000) (hl : S.length ≤ 12) (q1 : Option Res) {q2 : Option Res} (h2 : q2 = some (.bo (S.map M.D6)) ∨ q2 = some (.sh (.list (S.map M.D6)))) {p : PyData} (hp : Pr p) :
    (((gTp (gsC (gNm 3) (gsC (gNm 4) gsN))) p [some (.sh (.list (S.map M.D))), q1, q2, none, none, none, none, none]).bind l__law_judged_1) = some (.nx [some (.sh (.list (S.map M.D))), q1, some (.sh (.list (S.map M.D6))), none, none, none, none, none]) := by
  obtain ⟨u, v, rfl, su, sv⟩ := hp.two
  have gu : Gd u := su.gd (by decide) (by decide)
  have gv : Gd v := sv.gd (by decide) (by decide)
  have fu := e_fresh 24 u gu (by have := gu.deep; omega)
  have fv := e_fresh 24 v gv (by have := gv.deep; omega)
  have e1 := e_shows (S := S) (n := n) (fun x hx => (hS x hx).1) (by omega) (by omega) gu gv
  have e2 := e_law_right (S := S) (n := n) hS (by omega) gu gv
  have sb := e_same_b (rgt S u v)
  have ro : Ro (7 * S.length) 1 (S.map M.D6) := ro_D6 S fun x hx => (hS x hx).1.mono (by unfold IB; omega)
  have gl : Gd (.list [.list (S.map M.D6), u, v]) := by
    have r1 := Ro.cons (ro.lst.mono (Nat.le_refl _) (show 1 + 1 ≤ 10 by decide)) (Ro.cons su (Ro.cons sv (Ro.nil (w := 0))))
    exact r1.lst.gd (by omega) (by decide)
  have rp : ∀ r : Res, r.dat = .list [.list (S.map M.D6), u, v] → reprR r = some (.sh (.str (PyData.shown (.list [.list (S.map M.D6), u, v])))) := fun r hr => by
    have := gl.repr
    unfold reprR at this ⊢
    rw [hr]
    exact this
  have rp1 := rp (.bo [.list (S.map M.D6), u, v]) rfl
  have rp2 := rp (.fr [.list (S.map M.D6), u, v]) rfl
  have fru : (frs u).shr = some u := frs_shr u
  have frv : (frs v).shr = some v := frs_shr v
  have sh3 : shrs [.fr (S.map M.D6), frs u, frs v] = some [.list (S.map M.D6), u, v] := by
    rw [shrs_f]
    have : shrs [frs u, frs v] = some [u, v] := by
      cases u <;> cases v <;> simp [frs]
    rw [this]
    rfl
  have l3 : S.length ≤ 1000000 := by omega
  rcases h2 with rfl | rfl
  · simp [l__law_judged_1, fu, fv, sh3, e1, e2, sb, frz1, rp1, rp2]
  · simp [l__law_judged_1, fu, fv, sh3, e1, e2, sb, frz1, rp1, rp2]
theorem judged_loop {n : Nat} {S : List M} (hS : ∀ x ∈ S, x.bd n ∧ (x.det = 1 ∨ x.det = -1)) (hn : n ≤ 1000) (hl : S.length ≤ 12) (q1 : Option Res) : ∀ (ps : List PyData) {q2 : Option Res}, (q2 = some (.bo (S.map M.D6)) ∨ q2 = some (.sh (.list (S.map M.D6)))) → (∀ p ∈ ps, Pr p) →
    ∃ ρ', forD (gTp (gsC (gNm 3) (gsC (gNm 4) gsN))) l__law_judged_1 ps [some (.sh (.list (S.map M.D))), q1, q2, none, none, none, none, none] = some (.nx ρ')
  | [], _, _, _ => ⟨_, rfl⟩
  | p :: ps, q2, h2, h => by
    obtain ⟨ρ1, e1, e2⟩ := bind_some (judged_step hS hn hl q1 h2 (h p List.mem_cons_self))
    rw [forD, e1, Option.bind_some, e2, Option.bind_some]
    exact judged_loop hS hn hl q1 ps (Or.inr rfl) fun x hx => h x (List.mem_cons_of_mem _ hx)
theorem e_judged {n : Nat} {S : List M} (hS : ∀ x ∈ S, x.bd n ∧ (x.det = 1 ∨ x.det = -1)) (hn : n ≤ 1000) (hl : S.length ≤ 12) {ps : List PyData} (hp : ∀ p ∈ ps, Pr p) : f__law_judged [.list (S.map M.D), .list ps] = some (.sh (.bool true)) := by
  obtain ⟨ρ', e⟩ := judged_loop hS hn hl (some (.sh (.list ps))) ps (Or.inl rfl) hp
  have l1 : S.length ≤ 1000000 := by omega
  have lp := lc_plain (q := [some (.sh (.list (S.map M.D))), some (.sh (.list ps)), none, none, none, none, none, none]) (i := 7) (show 7 < 8 by decide) S
  simp [f__law_judged, b__law_judged, lp, l1, wipeD, e]
end Lk77
set_option maxRecDepth 100000
set_option maxHeartbeats 1000000
namespace Lk77
open PySem L2 F3 Gr
/-- a loop that appends to a list -/
theorem app_loop {g : PyData → Rh → Option Rh} {b : Rh → Option Out} (f : List PyData → Rh) (P Q : PyData → Prop) (B : Nat) : ∀ items : List PyData, (∀ d ∈ items, Q d) → (∀ d, Q d → ∀ acc : List PyData, acc.length + 2 ≤ B → ∃ new, ((g d (f acc)).bind b) = some (.nx (f (acc ++ new))) ∧ Al P new ∧ new.length ≤ 2) →
    ∀ acc : List PyData, Al P acc → acc.length + 2 * items.length ≤ B → ∃ acc', forD g b items (f acc) = some (.nx (f acc')) ∧ Al P acc' ∧ acc'.length ≤ acc.length + 2 * items.length
  | [], _, _, acc, ha, _ => ⟨acc, rfl, ha, by simp⟩
  | d :: ds, hq, h, acc, ha, hl => by
    rw [List.length_cons] at hl
    obtain ⟨new, e, hn, nl⟩ := h d (hq d List.mem_cons_self) acc (by omega)
    obtain ⟨ρ1, e1, e2⟩ := bind_some e
    obtain ⟨acc', e3, h3, l3⟩ := app_loop f P Q B ds (fun x hx => hq x (List.mem_cons_of_mem _ hx)) h (acc ++ new) (Al.app ha hn) (by rw [List.length_append]; omega)
    refine ⟨acc', ?_, h3, by rw [List.length_append] at l3; rw [List.length_cons]; omega⟩
    rw [forD, e1, Option.bind_some, e2, Option.bind_some]
    exact e3
theorem pr_of {u v : PyData} (hu : Sd 20 10 u) (hv : Sd 320 10 v) : Pr (.tuple [u, v]) := ⟨u, v, rfl, hu, hv⟩
theorem ro6 {a b c d e f : Int} (ha : F3.Bd 300 a) (hb : F3.Bd 300 b) (hc : F3.Bd 300 c) (hd : F3.Bd 300 d) (he : F3.Bd 300 e) (hf : F3.Bd 300 f) : Ro 6 0 [.int a, .int b, .int c, .int d, .int e, .int f] :=
  (Ro.cons (sd_int ha (by decide)) (Ro.cons (sd_int hb (by decide)) (Ro.cons (sd_int hc (by decide)) (Ro.cons (sd_int hd (by decide)) (Ro.cons (sd_int he (by decide)) (Ro.cons (sd_int hf (by decide)) (Ro.nil (w := 0)))))))).mono (by decide) (by decide)
theorem sd6 {a b c d e f : Int} (ha : F3.Bd 300 a) (hb : F3.Bd 300 b) (hc : F3.Bd 300 c) (hd : F3.Bd 300 d) (he : F3.Bd 300 e) (hf : F3.Bd 300 f) : Sd 320 10 (.tuple [.int a, .int b, .int c, .int d, .int e, .int f]) := (ro6 ha hb hc hd he hf).tup.mono (by decide) (by decide)
theorem bd0 : F3.Bd 300 0 := bd_of (n := 300) (by decide) (by decide)
theorem bd1 : F3.Bd 300 1 := (show F3.Bd 3 1 by decide).mono (by decide)
theorem bdm1 : F3.Bd 300 (-1) := (show F3.Bd 3 (-1) by decide).mono (by decide)
theorem kd_sd {kd : Str} {k : M → Bool} (K : Kn kd k) : Sd 20 10 (.str kd) := by
  rcases K.own with ⟨rfl, _⟩ | ⟨rfl, _⟩
  · exact (sd_s (strOk_of "square") (by decide) (by decide) 0 : Sd 20 0 _).mono (by decide) (by decide)
  · exact (sd_s (strOk_of "hexagon") (by decide) (by decide) 0 : Sd 20 0 _).mono (by decide) (by decide)
theorem st_sd (z : String) (hz : (Str.ofString z).length ≤ 10) : Sd 20 10 (.str (Str.ofString z)) := (sd_s (strOk_of z) (by omega) (by omega) 0 : Sd 20 0 _).mono (by decide) (by decide)
def It (d : PyData) : Prop := Sd 303 1 d
theorem pairs1 {kd : Str} (hk : Sd 20 10 (.str kd)) {hs : List PyData} (hh : Ro 6 0 hs) (hl : hs.length = 6) {at_ : Nat} (ha : at_ < 6) (q1 q6 q7 q8 q9 q10 q11 q12 : Option Res) (items : List PyData) (hi : ∀ d ∈ items, It d) (acc : List PyData) (hA : Al Pr acc) (hB : acc.length + 2 * items.length ≤ 200) :
    ∃ acc', forD (gNm 5) l__law_pairs_1 items [some (.sh (.str kd)), q1, some (.sh (.int at_)), some (.sh (.tuple hs)), some (.bo acc), none, q6, q7, q8, q9, q10, q11, q12] = some (.nx [some (.sh (.str kd)), q1, some (.sh (.int at_)), some (.sh (.tuple hs)), some (.bo acc'), none, q6, q7, q8, q9, q10, q11, q12]) ∧ Al Pr acc' ∧ acc'.length ≤ acc.length + 2 * items.length :=
  app_loop (fun acc => [some (.sh (.str kd)), q1, some (.sh (.int at_)), some (.sh (.tuple hs)), some (.bo acc), none, q6, q7, q8, q9, q10, q11, q12]) Pr It 200 items hi (fun d hd acc hb => by
    have c1 : cutD hs none (some (at_ : Int)) = hs.take at_ := cut_to _ _
    have c2 : cutD hs (some ((at_ : Int) + 1)) none = hs.drop (at_ + 1) := by
      rw [show ((at_ : Int) + 1) = ((at_ + 1 : Nat) : Int) by omega, cut_from]
    have n1 : (hs.take at_).length = at_ := by rw [List.length_take]; omega
    have n2 : (hs.drop (at_ + 1)).length = 5 - at_ := by rw [List.length_drop]; omega
    have r := ((hh.take at_).mono (Nat.le_refl _) (show 0 ≤ 1 by decide)).app (Ro.cons hd ((hh.drop (at_ + 1)).mono (Nat.le_refl _) (show 0 ≤ 1 by decide)))
    refine ⟨[.tuple [.str kd, .tuple (hs.take at_ ++ d :: hs.drop (at_ + 1))]], ?_, Al.cons (pr_of hk (r.tup.mono (by omega) (by decide))) Al.nil, by simp⟩
    have l1 : at_ + 1 ≤ 1000000 := by omega
    have l2 : at_ + 1 + (5 - at_) ≤ 1000000 := by omega
    have l3 : acc.length < 1000000 := by omega
    have m1 : min at_ hs.length = at_ := by omega
    have m2 : hs.length - (at_ + 1) = 5 - at_ := by omega
    simp [l__law_pairs_1, c1, c2, sApp_run, l1, l2, l3, m1, m2]) acc hA hB
theorem pairs2 {kd : Str} (hk : Sd 20 10 (.str kd)) (q1 q2 q3 q6 q7 q8 q9 q10 q11 q12 : Option Res) (items : List PyData) (hi : ∀ d ∈ items, Sd 320 10 d) (acc : List PyData) (hA : Al Pr acc) (hB : acc.length + 2 * items.length ≤ 200) :
    ∃ acc', forD (gNm 5) l__law_pairs_2 items [some (.sh (.str kd)), q1, q2, q3, some (.bo acc), none, q6, q7, q8, q9, q10, q11, q12] = some (.nx [some (.sh (.str kd)), q1, q2, q3, some (.bo acc'), none, q6, q7, q8, q9, q10, q11, q12]) ∧ Al Pr acc' ∧ acc'.length ≤ acc.length + 2 * items.length :=
  app_loop (fun acc => [some (.sh (.str kd)), q1, q2, q3, some (.bo acc), none, q6, q7, q8, q9, q10, q11, q12]) Pr (Sd 320 10) 200 items hi (fun d hd acc hb => by
    refine ⟨[.tuple [.str kd, d]], ?_, Al.cons (pr_of hk hd) Al.nil, by simp⟩
    have l3 : acc.length < 1000000 := by omega
    simp [l__law_pairs_2, sApp_run, l3]) acc hA hB
theorem pairs3 {kd : Str} (hk : Sd 20 10 (.str kd)) (q1 q2 q3 q6 q7 q8 q9 q10 q11 q12 : Option Res) (items : List PyData) (hi : ∀ d ∈ items, Sd 320 10 d) (acc : List PyData) (hA : Al Pr acc) (hB : acc.length + 2 * items.length ≤ 200) :
    ∃ acc', forD (gNm 5) l__law_pairs_3 items [some (.sh (.str kd)), q1, q2, q3, some (.bo acc), none, q6, q7, q8, q9, q10, q11, q12] = some (.nx [some (.sh (.str kd)), q1, q2, q3, some (.bo acc'), none, q6, q7, q8, q9, q10, q11, q12]) ∧ Al Pr acc' ∧ acc'.length ≤ acc.length + 2 * items.length :=
  app_loop (fun acc => [some (.sh (.str kd)), q1, q2, q3, some (.bo acc), none, q6, q7, q8, q9, q10, q11, q12]) Pr (Sd 320 10) 200 items hi (fun d hd acc hb => by
    refine ⟨[.tuple [.str kd, d]], ?_, Al.cons (pr_of hk hd) Al.nil, by simp⟩
    have l3 : acc.length < 1000000 := by omega
    simp [l__law_pairs_3, sApp_run, l3]) acc hA hB
theorem pairs4 {h : M} (bh : h.bd 100) (q0 q2 q3 q5 q6 q7 q8 q9 q10 q11 : Option Res) (acc : List PyData) (hA : Al Pr acc) (hB : acc.length + 2 * (kD ++ kN).length ≤ 200) :
    ∃ acc', forD (gNm 12) l__law_pairs_4 ((kD ++ kN).map M.D) [q0, some (.sh h.D), q2, q3, some (.bo acc), q5, q6, q7, q8, q9, q10, q11, none] = some (.nx [q0, some (.sh h.D), q2, q3, some (.bo acc'), q5, q6, q7, q8, q9, q10, q11, none]) ∧ Al Pr acc' ∧ acc'.length ≤ acc.length + 2 * ((kD ++ kN).map M.D).length :=
  app_loop (fun acc => [q0, some (.sh h.D), q2, q3, some (.bo acc), q5, q6, q7, q8, q9, q10, q11, none]) Pr (fun d => ∃ m ∈ kD ++ kN, d = m.D) 200 ((kD ++ kN).map M.D) (fun d hd => by obtain ⟨m, hm, rfl⟩ := List.mem_map.mp hd; exact ⟨m, hm, rfl⟩) (fun d hd acc hb => by
    obtain ⟨m, hm, rfl⟩ := hd
    have bm := bdb_bd (bdKs m hm)
    have et := e_law_times bm bh (by decide)
    have bp : (m * h).bd 300 := (bm.mul bh).mono (by decide)
    have ep := e_plain (n := 0) (x := m * h)
    have s6 : Sd 320 10 (m * h).D6 := sd6 bp.1 bp.2.1 bp.2.2.1 bp.2.2.2 bd0 bd0
    refine ⟨[.tuple [.str "square", (m * h).D6], .tuple [.str "hexagon", (m * h).D6]], ?_, Al.cons (pr_of (st_sd "square" (by decide)) s6) (Al.cons (pr_of (st_sd "hexagon" (by decide)) s6) Al.nil), by simp⟩
    have l3 : acc.length < 1000000 := by omega
    have l4 : acc.length + 1 < 1000000 := by omega
    simp [l__law_pairs_4, et, ep, sApp_run, l3, l4]) acc hA (by rw [List.length_map]; exact hB)
theorem at6 (m : M) {n : Nat} (hn : 1 ≤ n) (hb : m.bd n) {k : Nat} (hk : k < 6) : ∃ x : Int, F3.Bd n x ∧ atI [PyData.int m.a, .int m.b, .int m.c, .int m.d, .int 0, .int 0] (k : Int) = some (.int x) := by
  have z : F3.Bd n 0 := (show F3.Bd 1 0 by decide).mono hn
  match k, hk with
  | 0, _ => exact ⟨m.a, hb.1, rfl⟩
  | 1, _ => exact ⟨m.b, hb.2.1, rfl⟩
  | 2, _ => exact ⟨m.c, hb.2.2.1, rfl⟩
  | 3, _ => exact ⟨m.d, hb.2.2.2, rfl⟩
  | 4, _ => exact ⟨0, z, rfl⟩
  | 5, _ => exact ⟨0, z, rfl⟩
theorem e_pairs {kd : Str} {k : M → Bool} (K : Kn kd k) {h : M} (bh : h.bd 100) {at_ : Nat} (ha : at_ < 6) : ∃ ps : List PyData, f__law_pairs [.str kd, h.D, .int at_] = some (.fr ps) ∧ (∀ p ∈ ps, Pr p) ∧ ps.length ≤ 300 := by
  have hk := kd_sd K
  have ep := e_plain (n := 0) (x := h)
  have hD6 : h.D6 = .tuple [.int h.a, .int h.b, .int h.c, .int h.d, .int 0, .int 0] := rfl
  obtain ⟨x, bx, ex⟩ := at6 h (by decide) bh ha
  have b3 := bh.mono (show 100 ≤ 300 by decide)
  obtain ⟨ba, bb, bc, bd⟩ := b3
  have ro := ro6 ba bb bc bd bd0 bd0
  have s6 : Sd 320 10 h.D6 := ro.tup.mono (by decide) (by decide)
  have lg : x.natAbs.log2 < 1920 := (bx.mono (show 100 ≤ 300 by decide)).log' |> fun z => by omega
  have bx3 := bx.mono (show 100 ≤ 300 by decide)
  have sx : Sd 303 1 (.str (Str.ofString x.repr)) := by
    have := text_len bx3
    rw [show toString x = x.repr from rfl] at this
    exact sd_s (x := Str.ofString x.repr) (strOk_of x.repr) (by omega) (by omega) 1
  have i1 : ∀ i : Int, F3.Bd 300 i → It (.int i) := fun i hi => (sd_int hi (by decide)).mono (by decide) (by decide)
  have m2a : mulOk 2 h.a := mulOk_of (show F3.Bd 3 2 by decide) ba (by decide)
  have m2c : mulOk 2 h.c := mulOk_of (show F3.Bd 3 2 by decide) bc (by decide)
  have b2 : ∀ {i : Int}, F3.Bd 100 i → F3.Bd 300 (2 * i) := fun hi => ((show F3.Bd 3 2 by decide).mul hi).mono (by decide)
  obtain ⟨ba1, bb1, bc1, bd1_⟩ := bh
  have bs : ∀ {i j : Int}, F3.Bd 100 i → F3.Bd 100 j → F3.Bd 300 (i + j) := fun hi hj => (hi.add hj).mono (by decide)
  have b11 : F3.Bd 100 1 := (show F3.Bd 3 1 by decide).mono (by decide)
  obtain ⟨ps0, hps0⟩ : ∃ ps0 : List PyData, ps0 = [.tuple [.str "square", h.D6], .tuple [.str "hexagon", h.D6], .tuple [.str "rest", h.D6], .tuple [.str kd, .list [.int h.a, .int h.b, .int h.c, .int h.d, .int 0, .int 0]], .tuple [.str kd, .tuple [.int h.a, .int h.b, .int h.c, .int h.d]], .tuple [.str kd, .tuple [.int h.a, .int h.b, .int h.c, .int h.d, .int 0, .int 0, .int 0]], .tuple [.none, h.D6]] := ⟨_, rfl⟩
  have al0 : Al Pr ps0 := by
    rw [hps0]
    refine Al.cons (pr_of (st_sd "square" (by decide)) s6) (Al.cons (pr_of (st_sd "hexagon" (by decide)) s6) (Al.cons (pr_of (st_sd "rest" (by decide)) s6) (Al.cons (pr_of hk (ro.lst.mono (by decide) (by decide))) (Al.cons (pr_of hk ((ro.take 4).tup.mono (by decide) (by decide))) (Al.cons (pr_of hk ?_) (Al.cons (pr_of (sd_none _ _ (by decide)) s6) Al.nil))))))
    exact (ro.app (Ro.cons (sd_int bd0 (by decide)) (Ro.nil (w := 0)))).tup.mono (by decide) (by decide)
  have l0 : ps0.length = 7 := by rw [hps0]; rfl
  obtain ⟨ps1, e1, al1, l1⟩ := pairs1 hk ro rfl ha (some (.sh h.D)) none none none none none none none [.int (x + 1), .int (x - 1), .int (-x), .bool true, .bool false, .none, .str (Str.ofString x.repr), .tuple [.int x]] (by
    intro d hd
    simp only [List.mem_cons, List.not_mem_nil, or_false] at hd
    rcases hd with rfl | rfl | rfl | rfl | rfl | rfl | rfl | rfl
    · exact i1 _ (bs bx b11)
    · exact i1 _ ((bx.sub b11).mono (by decide))
    · exact i1 _ bx3.neg
    · exact sd_bool _ _ _ (by decide)
    · exact sd_bool _ _ _ (by decide)
    · exact sd_none _ _ (by decide)
    · exact sx
    · exact ((Ro.cons (sd_int bx3 (by decide)) (Ro.nil (w := 0))).tup.mono (by decide) (by decide) : Sd 303 1 _)) ps0 al0 (by rw [l0]; simp)
  have l1' : ps1.length ≤ 23 := by simp at l1; omega
  obtain ⟨ps2, e2, al2, l2⟩ := pairs2 hk (some (.sh h.D)) (some (.sh (.int at_))) (some (.sh h.D6)) (some (.sh (.int h.a))) (some (.sh (.int h.b))) (some (.sh (.int h.c))) (some (.sh (.int h.d))) (some (.sh (.int 0))) (some (.sh (.int 0))) none
    [.tuple [.int h.c, .int h.d, .int h.a, .int h.b, .int 0, .int 0], .tuple [.int h.a, .int h.b, .int h.c, .int h.d, .int 1, .int 0], .tuple [.int h.a, .int h.b, .int h.c, .int h.d, .int 0, .int (-1)], .tuple [.int (2 * h.a), .int h.b, .int (2 * h.c), .int h.d, .int 0, .int 0], .tuple [.int h.d, .int (-h.b), .int (-h.c), .int h.a, .int 0, .int 0]] (by
    intro d hd
    simp only [List.mem_cons, List.not_mem_nil, or_false] at hd
    rcases hd with rfl | rfl | rfl | rfl | rfl
    · exact sd6 bc bd ba bb bd0 bd0
    · exact sd6 ba bb bc bd bd1 bd0
    · exact sd6 ba bb bc bd bd0 bdm1
    · exact sd6 (b2 ba1) bb (b2 bc1) bd bd0 bd0
    · exact sd6 bd bb.neg bc.neg ba bd0 bd0) ps1 al1 (by simp; omega)
  have l2' : ps2.length ≤ 33 := by simp at l2; omega
  obtain ⟨ps3, e3, al3, l3⟩ := pairs3 hk (some (.sh h.D)) (some (.sh (.int at_))) (some (.sh h.D6)) (some (.sh (.int h.a))) (some (.sh (.int h.b))) (some (.sh (.int h.c))) (some (.sh (.int h.d))) (some (.sh (.int 0))) (some (.sh (.int 0))) none
    [.tuple [.int (-h.a), .int (-h.b), .int h.c, .int h.d, .int 0, .int 0], .tuple [.int h.c, .int h.d, .int (-h.a), .int (-h.b), .int 0, .int 0], .tuple [.int h.a, .int h.b, .int h.c, .int h.d, .bool false, .int 0], .tuple [.int (h.a + h.c), .int (h.b + h.d), .int h.c, .int h.d, .int 0, .int 0], .tuple [.int h.a, .int h.b, .int (h.c + h.a), .int (h.d + h.b), .int 0, .int 0]] (by
    intro d hd
    simp only [List.mem_cons, List.not_mem_nil, or_false] at hd
    rcases hd with rfl | rfl | rfl | rfl | rfl
    · exact sd6 ba.neg bb.neg bc bd bd0 bd0
    · exact sd6 bc bd ba.neg bb.neg bd0 bd0
    · exact ((ro.take 4).app (Ro.cons (sd_bool false 1 0 (by decide)) (Ro.cons (sd_int bd0 (by decide)) (Ro.nil (w := 0))))).tup.mono (by decide) (by decide)
    · exact sd6 (bs ba1 bc1) (bs bb1 bd1_) bc bd bd0 bd0
    · exact sd6 ba bb (bs bc1 ba1) (bs bd1_ bb1) bd0 bd0) ps2 al2 (by simp; omega)
  have l3' : ps3.length ≤ 43 := by simp at l3; omega
  obtain ⟨ps4, e4, al4, l4⟩ := pairs4 ⟨ba1, bb1, bc1, bd1_⟩ (some (.sh (.str kd))) (some (.sh (.int at_))) (some (.sh h.D6)) none (some (.sh (.int h.a))) (some (.sh (.int h.b))) (some (.sh (.int h.c))) (some (.sh (.int h.d))) (some (.sh (.int 0))) (some (.sh (.int 0))) ps3 al3 (by have : (kD ++ kN).length = 20 := rfl; omega)
  have l4' : ps4.length ≤ 83 := by have : ((kD ++ kN).map M.D).length = 20 := rfl; omega
  have hkn : kD.length + kN.length ≤ 1000000 := by decide
  rw [List.map_append] at e4
  have c4 : cutD [PyData.int h.a, .int h.b, .int h.c, .int h.d, .int 0, .int 0] none (some 4) = [.int h.a, .int h.b, .int h.c, .int h.d] := by
    rw [show (some 4 : Option Int) = some ((4 : Nat) : Int) from rfl, cut_to]
    rfl
  obtain ⟨e5, he5⟩ : ∃ e5 : List PyData, e5 = [.tuple [.list [.str kd], h.D6], .tuple [.str kd, .none], .tuple [.str kd, .int 1], .tuple [.str "", h.D6], .tuple [.bool true, h.D6], .tuple [.int 1, h.D6], .tuple [.str kd, .str kd], .tuple [.str "Square", h.D6], .tuple [.str kd, .tuple []]] := ⟨_, rfl⟩
  obtain ⟨e6, he6⟩ : ∃ e6 : List PyData, e6 = [.tuple [.str "square", .tuple [.int 1, .int 0, .int 0, .int 1, .int 0, .int 0]], .tuple [.str "hexagon", .tuple [.int 1, .int 0, .int 0, .int 1, .int 0, .int 0]], .tuple [.tuple [.str kd], h.D6], .tuple [.str kd, .tuple [h.D6]], .tuple [.str "hexagon ", h.D6]] := ⟨_, rfl⟩
  have kdw : ∃ w, w ≤ 15 ∧ Sd w 0 (.str kd) := by
    rcases K.own with ⟨rfl, _⟩ | ⟨rfl, _⟩
    · exact ⟨10, by decide, sd_s (strOk_of "square") (by decide) (by decide) 0⟩
    · exact ⟨10, by decide, sd_s (strOk_of "hexagon") (by decide) (by decide) 0⟩
  obtain ⟨w, w15, sk⟩ := kdw
  have s1_ : Sd 20 10 (.int 1) := (sd_int bd1 (by decide)).mono (by decide) (by decide)
  have sone : Sd 320 10 (.tuple [.int 1, .int 0, .int 0, .int 1, .int 0, .int 0]) := sd6 bd1 bd0 bd0 bd1 bd0 bd0
  have al5 : Al Pr e5 := by
    rw [he5]
    refine Al.cons (pr_of ((Ro.cons sk (Ro.nil (w := 0))).lst.mono (by omega) (by decide)) s6) (Al.cons (pr_of hk (sd_none _ _ (by decide))) (Al.cons (pr_of hk (s1_.mono (by decide) (by decide))) (Al.cons (pr_of (st_sd "" (by decide)) s6) (Al.cons (pr_of (sd_bool _ _ _ (by decide)) s6) (Al.cons (pr_of s1_ s6) (Al.cons (pr_of hk (hk.mono (by decide) (by decide))) (Al.cons (pr_of (st_sd "Square" (by decide)) s6) (Al.cons (pr_of hk ((Ro.nil (w := 0) (k := 0)).tup.mono (by decide) (by decide))) Al.nil))))))))
  have al6 : Al Pr e6 := by
    rw [he6]
    refine Al.cons (pr_of (st_sd "square" (by decide)) sone) (Al.cons (pr_of (st_sd "hexagon" (by decide)) sone) (Al.cons (pr_of ((Ro.cons sk (Ro.nil (w := 0))).tup.mono (by omega) (by decide)) s6) (Al.cons (pr_of hk ?_) (Al.cons (pr_of (st_sd "hexagon " (by decide)) s6) Al.nil))))
    exact (Ro.cons ro.tup (Ro.nil (w := 0))).tup.mono (by decide) (by decide)
  have l5 : e5.length = 9 := by rw [he5]; rfl
  have l6 : e6.length = 5 := by rw [he6]; rfl
  refine ⟨ps4 ++ e5 ++ e6, ?_, fun p hp => ?_, by simp only [List.length_append]; omega⟩
  rotate_left
  · rcases List.mem_append.mp hp with hp | hp
    · rcases List.mem_append.mp hp with hp | hp
      · exact al4 p hp
      · exact al5 p hp
    · exact al6 p hp
  have la5 : ps4.length ≤ 999991 := by omega
  have la6 : ps4.length + e5.length ≤ 999995 := by omega

  have s0 : (sSet 3 (eFn f__law_plain (aCons (eVar 1) aNil))) [some (.sh (.str kd)), some (.sh h.D), some (.sh (.int at_)), none, none, none, none, none, none, none, none, none, none] = some (.nx [some (.sh (.str kd)), some (.sh h.D), some (.sh (.int at_)), some (.sh h.D6), none, none, none, none, none, none, none, none, none]) := by
    simp [ep]
  have s1 : (sSet 4 (eLst (aCons (eTup (aCons (eC (.str "square")) (aCons (eVar 3) aNil))) (aCons (eTup (aCons (eC (.str "hexagon")) (aCons (eVar 3) aNil))) (aCons (eTup (aCons (eC (.str "rest")) (aCons (eVar 3) aNil))) (aCons (eTup (aCons (eVar 0) (aCons (eCall (on1 listR) (aCons (eVar 3) aNil)) aNil))) (aCons (eTup (aCons (eVar 0) (aCons (eSl (eVar 3) oNo (oIs (eC (.int 4)))) aNil))) (aCons (eTup (aCons (eVar 0) (aCons (eBin addR (eVar 3) (eTup (aCons (eC (.int 0)) aNil))) aNil))) (aCons (eTup (aCons (eC .none) (aCons (eVar 3) aNil))) aNil))))))))) [some (.sh (.str kd)), some (.sh h.D), some (.sh (.int at_)), some (.sh h.D6), none, none, none, none, none, none, none, none, none] = some (.nx [some (.sh (.str kd)), some (.sh h.D), some (.sh (.int at_)), some (.sh h.D6), some (.bo ps0), none, none, none, none, none, none, none, none]) := by
    simp [hps0, hD6, c4]
  have s2 : (sFo [5] (sPre [5] (sFor (itSeq (eLst (aCons (eBin addR (eBin ixR (eVar 3) (eVar 2)) (eC (.int 1))) (aCons (eBin subR (eBin ixR (eVar 3) (eVar 2)) (eC (.int 1))) (aCons (eUn negR (eBin ixR (eVar 3) (eVar 2))) (aCons (eC (.bool true)) (aCons (eC (.bool false)) (aCons (eC .none) (aCons (eCall (on1 strR) (aCons (eBin ixR (eVar 3) (eVar 2)) aNil)) (aCons (eTup (aCons (eBin ixR (eVar 3) (eVar 2)) aNil)) aNil)))))))))) (gNm 5)
  l__law_pairs_1))) [some (.sh (.str kd)), some (.sh h.D), some (.sh (.int at_)), some (.sh h.D6), some (.bo ps0), none, none, none, none, none, none, none, none] = some (.nx [some (.sh (.str kd)), some (.sh h.D), some (.sh (.int at_)), some (.sh h.D6), some (.bo ps1), none, none, none, none, none, none, none, none]) := by
    rw [hD6]
    simp [ex, lg, e1]
  have s3 : (sUnp (gTp (gsC (gNm 6) (gsC (gNm 7) (gsC (gNm 8) (gsC (gNm 9) (gsC (gNm 10) (gsC (gNm 11) gsN))))))) (eVar 3)) [some (.sh (.str kd)), some (.sh h.D), some (.sh (.int at_)), some (.sh h.D6), some (.bo ps1), none, none, none, none, none, none, none, none] = some (.nx [some (.sh (.str kd)), some (.sh h.D), some (.sh (.int at_)), some (.sh h.D6), some (.bo ps1), none, some (.sh (.int h.a)), some (.sh (.int h.b)), some (.sh (.int h.c)), some (.sh (.int h.d)), some (.sh (.int 0)), some (.sh (.int 0)), none]) := by
    simp [hD6]
  have s4 : (sFo [5] (sPre [5] (sFor (itSeq (eLst (aCons (eTup (aCons (eVar 8) (aCons (eVar 9) (aCons (eVar 6) (aCons (eVar 7) (aCons (eC (.int 0)) (aCons (eC (.int 0)) aNil))))))) (aCons (eTup (aCons (eVar 6) (aCons (eVar 7) (aCons (eVar 8) (aCons (eVar 9) (aCons (eC (.int 1)) (aCons (eC (.int 0)) aNil))))))) (aCons (eTup (aCons (eVar 6) (aCons (eVar 7) (aCons (eVar 8) (aCons (eVar 9) (aCons (eC (.int 0)) (aCons (eUn negR (eC (.int 1))) aNil))))))) (aCons (eTup (aCons (eBin mulI (eC (.int 2)) (eVar 6)) (aCons (eVar 7) (aCons (eBin mulI (eC (.int 2)) (eVar 8)) (aCons (eVar 9) (aCons (eC (.int 0)) (aCons (eC (.int 0)) aNil))))))) (aCons (eTup (aCons (eVar 9) (aCons (eUn negR (eVar 7)) (aCons (eUn negR (eVar 8)) (aCons (eVar 6) (aCons (eC (.int 0)) (aCons (eC (.int 0)) aNil))))))) aNil))))))) (gNm 5)
  l__law_pairs_2))) [some (.sh (.str kd)), some (.sh h.D), some (.sh (.int at_)), some (.sh h.D6), some (.bo ps1), none, some (.sh (.int h.a)), some (.sh (.int h.b)), some (.sh (.int h.c)), some (.sh (.int h.d)), some (.sh (.int 0)), some (.sh (.int 0)), none] = some (.nx [some (.sh (.str kd)), some (.sh h.D), some (.sh (.int at_)), some (.sh h.D6), some (.bo ps2), none, some (.sh (.int h.a)), some (.sh (.int h.b)), some (.sh (.int h.c)), some (.sh (.int h.d)), some (.sh (.int 0)), some (.sh (.int 0)), none]) := by
    simp [m2a, m2c, e2]
  have s5 : (sFo [5] (sPre [5] (sFor (itSeq (eLst (aCons (eTup (aCons (eUn negR (eVar 6)) (aCons (eUn negR (eVar 7)) (aCons (eVar 8) (aCons (eVar 9) (aCons (eC (.int 0)) (aCons (eC (.int 0)) aNil))))))) (aCons (eTup (aCons (eVar 8) (aCons (eVar 9) (aCons (eUn negR (eVar 6)) (aCons (eUn negR (eVar 7)) (aCons (eC (.int 0)) (aCons (eC (.int 0)) aNil))))))) (aCons (eTup (aCons (eVar 6) (aCons (eVar 7) (aCons (eVar 8) (aCons (eVar 9) (aCons (eC (.bool false)) (aCons (eC (.int 0)) aNil))))))) (aCons (eTup (aCons (eBin addR (eVar 6) (eVar 8)) (aCons (eBin addR (eVar 7) (eVar 9)) (aCons (eVar 8) (aCons (eVar 9) (aCons (eC (.int 0)) (aCons (eC (.int 0)) aNil))))))) (aCons (eTup (aCons (eVar 6) (aCons (eVar 7) (aCons (eBin addR (eVar 8) (eVar 6)) (aCons (eBin addR (eVar 9) (eVar 7)) (aCons (eC (.int 0)) (aCons (eC (.int 0)) aNil))))))) aNil))))))) (gNm 5)
  l__law_pairs_3))) [some (.sh (.str kd)), some (.sh h.D), some (.sh (.int at_)), some (.sh h.D6), some (.bo ps2), none, some (.sh (.int h.a)), some (.sh (.int h.b)), some (.sh (.int h.c)), some (.sh (.int h.d)), some (.sh (.int 0)), some (.sh (.int 0)), none] = some (.nx [some (.sh (.str kd)), some (.sh h.D), some (.sh (.int at_)), some (.sh h.D6), some (.bo ps3), none, some (.sh (.int h.a)), some (.sh (.int h.b)), some (.sh (.int h.c)), some (.sh (.int h.d)), some (.sh (.int 0)), some (.sh (.int 0)), none]) := by
    simp [e3]
  have s6 : (sFo [12] (sPre [12] (sFor (itSeq (eBin addR (eFn f__law_keeping (aCons (eC (.str "square")) aNil)) (eFn f__law_keeping (aCons (eC (.str "hexagon")) aNil)))) (gNm 12)
  l__law_pairs_4))) [some (.sh (.str kd)), some (.sh h.D), some (.sh (.int at_)), some (.sh h.D6), some (.bo ps3), none, some (.sh (.int h.a)), some (.sh (.int h.b)), some (.sh (.int h.c)), some (.sh (.int h.d)), some (.sh (.int 0)), some (.sh (.int 0)), none] = some (.nx [some (.sh (.str kd)), some (.sh h.D), some (.sh (.int at_)), some (.sh h.D6), some (.bo ps4), none, some (.sh (.int h.a)), some (.sh (.int h.b)), some (.sh (.int h.c)), some (.sh (.int h.d)), some (.sh (.int 0)), some (.sh (.int 0)), none]) := by
    simp [e_keepS, e_keepH, hkn, e4]
  have s7 : (sSet 4 (eBin addR (eVar 4) (eLst (aCons (eTup (aCons (eLst (aCons (eVar 0) aNil)) (aCons (eVar 3) aNil))) (aCons (eTup (aCons (eVar 0) (aCons (eC .none) aNil))) (aCons (eTup (aCons (eVar 0) (aCons (eC (.int 1)) aNil))) (aCons (eTup (aCons (eC (.str "")) (aCons (eVar 3) aNil))) (aCons (eTup (aCons (eC (.bool true)) (aCons (eVar 3) aNil))) (aCons (eTup (aCons (eC (.int 1)) (aCons (eVar 3) aNil))) (aCons (eTup (aCons (eVar 0) (aCons (eVar 0) aNil))) (aCons (eTup (aCons (eC (.str "Square")) (aCons (eVar 3) aNil))) (aCons (eTup (aCons (eVar 0) (aCons (eTup aNil) aNil))) aNil)))))))))))) [some (.sh (.str kd)), some (.sh h.D), some (.sh (.int at_)), some (.sh h.D6), some (.bo ps4), none, some (.sh (.int h.a)), some (.sh (.int h.b)), some (.sh (.int h.c)), some (.sh (.int h.d)), some (.sh (.int 0)), some (.sh (.int 0)), none] = some (.nx [some (.sh (.str kd)), some (.sh h.D), some (.sh (.int at_)), some (.sh h.D6), some (.bo (ps4 ++ e5)), none, some (.sh (.int h.a)), some (.sh (.int h.b)), some (.sh (.int h.c)), some (.sh (.int h.d)), some (.sh (.int 0)), some (.sh (.int 0)), none]) := by
    simp [he5, hD6, la5]
  have s8 : (sRet (eBin addR (eVar 4) (eLst (aCons (eTup (aCons (eC (.str "square")) (aCons (eTup (aCons (eC (.int 1)) (aCons (eC (.int 0)) (aCons (eC (.int 0)) (aCons (eC (.int 1)) (aCons (eC (.int 0)) (aCons (eC (.int 0)) aNil))))))) aNil))) (aCons (eTup (aCons (eC (.str "hexagon")) (aCons (eTup (aCons (eC (.int 1)) (aCons (eC (.int 0)) (aCons (eC (.int 0)) (aCons (eC (.int 1)) (aCons (eC (.int 0)) (aCons (eC (.int 0)) aNil))))))) aNil))) (aCons (eTup (aCons (eTup (aCons (eVar 0) aNil)) (aCons (eVar 3) aNil))) (aCons (eTup (aCons (eVar 0) (aCons (eTup (aCons (eVar 3) aNil)) aNil))) (aCons (eTup (aCons (eC (.str "hexagon ")) (aCons (eVar 3) aNil))) aNil)))))))) [some (.sh (.str kd)), some (.sh h.D), some (.sh (.int at_)), some (.sh h.D6), some (.bo (ps4 ++ e5)), none, some (.sh (.int h.a)), some (.sh (.int h.b)), some (.sh (.int h.c)), some (.sh (.int h.d)), some (.sh (.int 0)), some (.sh (.int 0)), none] = some (.rt (.fr (ps4 ++ e5 ++ e6))) := by
    simp [he6, hD6, la6]
  have e0 : f__law_pairs [.str kd, h.D, .int at_] = finD (b__law_pairs [some (.sh (.str kd)), some (.sh h.D), some (.sh (.int at_)), none, none, none, none, none, none, none, none, none, none]) := fnD_3
  rw [e0, b__law_pairs, seq_run s0, seq_run s1, seq_run s2, seq_run s3, seq_run s4, seq_run s5, seq_run s6, seq_run s7, s8]
  rfl
end Lk77
set_option maxRecDepth 100000
set_option maxHeartbeats 1000000
namespace Lk77
open PySem L2 F3 Gr
theorem law_in {K ms : List M} (h1 : M.one ∈ K) (hm : ∀ x ∈ K, ∀ y ∈ K, x * y ∈ K) (hs : ∀ m ∈ ms, m ∈ K) : ∀ n, ∀ x ∈ law ms n, x ∈ K
  | 0 => fun x hx => by
    rw [List.mem_singleton.mp (show x ∈ [M.one] from hx)]
    exact h1
  | n + 1 => by
    have ih := law_in h1 hm hs n
    show ∀ x ∈ (if n < (law ms n).length ∧ (law ms n).length < 14 then stp ms (law ms n) n else law ms n), x ∈ K
    split
    · unfold stp
      split
      · rename_i y hy
        exact bst_all ms _ ih fun m hmm => hm m (hs m hmm) y (ih y (List.mem_of_getElem? hy))
      · exact ih
    · exact ih
/-- the group of led moves -/
theorem led_grp {kd : Str} {k : M → Bool} {K : List M} (D : Drn kd k K) {h : M} (hd : h.det = 1) : Grp (K.map (M.by_ h)) := by
  refine ⟨?_, ?_, fun x hx y hy => ?_, fun x hx => ?_⟩
  · refine List.pairwise_map.mpr (D.nd.imp fun hab e => hab (by_inj hd e))
  · exact List.mem_map.mpr ⟨M.one, D.one, by_one_ hd⟩
  · obtain ⟨x', hx', rfl⟩ := List.mem_map.mp hx
    obtain ⟨y', hy', rfl⟩ := List.mem_map.mp hy
    rw [← by_hom hd]
    exact List.mem_map.mpr ⟨x' * y', D.mul x' hx' y' hy', rfl⟩
  · obtain ⟨x', hx', rfl⟩ := List.mem_map.mp hx
    rw [M.by_det hd]
    exact dets x' (D.sub x' hx')
theorem by_back {h : M} (hd : h.det = 1) (y : M) : M.by_ h.inv (M.by_ h y) = y := by
  have di : h.inv.det = 1 := by rw [M.det_inv, hd]
  show h.inv * M.by_ h y * h.inv.inv = y
  rw [inv_by hd, M.mul_assoc, M.mul_inv di, M.mul_one]
theorem led_list {kd : Str} {k : M → Bool} {K : List M} (D : Drn kd k K) {h : M} (hd : h.det = 1) {ms : List M} (hm : ∀ m ∈ ms, ∃ x ∈ K, m = M.by_ h x) : ∃ xs : List M, (∀ x ∈ xs, x ∈ K) ∧ ms = xs.map (M.by_ h) := by
  induction ms with
  | nil => exact ⟨[], by simp, rfl⟩
  | cons m ms ih =>
    obtain ⟨xs, h1, h2⟩ := ih fun y hy => hm y (List.mem_cons_of_mem _ hy)
    obtain ⟨x, hx, e⟩ := hm m List.mem_cons_self
    refine ⟨x :: xs, fun y hy => ?_, by rw [List.map_cons, ← e, ← h2]⟩
    rcases List.mem_cons.mp hy with rfl | hy
    · exact hx
    · exact h1 y hy
theorem two_small : ∀ s ∈ [[(⟨1, 0, 0, 1⟩ : M)], [⟨1, 0, 0, 1⟩, ⟨1, 1, 0, -1⟩], [⟨0, 1, 1, 0⟩, ⟨1, 0, 0, 1⟩], [⟨-1, 0, 0, 1⟩, ⟨1, 0, 0, 1⟩]], s.Nodup ∧ M.one ∈ s ∧ (∀ x ∈ s, ∀ y ∈ s, x * y ∈ s) ∧ (∀ x ∈ s, x.det = 1 ∨ x.det = -1) ∧ (∀ x ∈ s, bdb 3 x = true) ∧ s.length ≤ 12 := by decide
def small3 : List (List M) := [[(⟨1, 0, 0, 1⟩ : M)], [⟨1, 0, 0, 1⟩, ⟨1, 1, 0, -1⟩], [⟨0, 1, 1, 0⟩, ⟨1, 0, 0, 1⟩], [⟨-1, 0, 0, 1⟩, ⟨1, 0, 0, 1⟩]]
theorem two_loop (q0 q1 q2 q3 q4 q5 q6 q7 q8 q9 q11 q12 : Option Res) : forD (gNm 10) l__law_part_two_2 (small3.map encL) [q0, q1, q2, q3, q4, q5, q6, q7, q8, q9, none, q11, q12] = some (.nx [q0, q1, q2, q3, q4, q5, q6, q7, q8, q9, none, q11, q12]) := by
  refine for_still _ fun d hd => ?_
  obtain ⟨s, hs, rfl⟩ := List.mem_map.mp hd
  obtain ⟨h1, h2, h3, h4, h5, h6⟩ := two_small s hs
  have g : Grp s := ⟨h1, h2, h3, h4⟩
  have e := e_told_two (n := 3) (Lk77.Grp.perm g (sM_perm s)) (fun x hx => bdb_bd (h5 x ((sM_perm s).mem_iff.mp hx))) (by decide) (by rw [(sM_perm s).length_eq]; exact h6)
  have s1 := shape_D s
  have s2 := srt_D s
  simp [l__law_part_two_2, encL, sortR, s1, s2, e]
theorem lists3 : [PyData.list [.tuple [.int 1, .int 0, .int 0, .int 1]], .list [.tuple [.int 1, .int 0, .int 0, .int 1], .tuple [.int 1, .int 1, .int 0, .int (-1)]], .list [.tuple [.int 0, .int 1, .int 1, .int 0], .tuple [.int 1, .int 0, .int 0, .int 1]], .list [.tuple [.int (-1), .int 0, .int 0, .int 1], .tuple [.int 1, .int 0, .int 0, .int 1]]] = small3.map encL := rfl
theorem one_two {kd : Str} {k : M → Bool} {K : List M} (D : Drn kd k K) {h : M} (hd : h.det = 1) (bh : h.bd 67) (le : ∀ x ∈ kD ++ kN, leb (M.by_ h x) = true) (q0 q1 q2 q4 q5 q6 q10 q11 : Option Res) :
    forD (gNm 8) l__law_part_two_1 [.str kd] [q0, q1, q2, some (.sh h.D), q4, q5, q6, some (.sh h.inv.D), none, none, q10, q11, none] = some (.nx [q0, q1, q2, some (.sh h.D), q4, q5, q6, some (.sh h.inv.D), none, none, q10, q11, none]) := by
  refine for_still _ fun d hdd => ?_
  rw [List.mem_singleton.mp hdd]
  have lb : lcD (gNm 12) tYesD (eFn f__law_by (aCons (eVar 3) (aCons (eVar 12) aNil))) [q0, q1, q2, some (.sh h.D), q4, q5, q6, some (.sh h.inv.D), some (.sh (.str kd)), none, q10, q11, none] (K.map M.D) = some ((K.map (M.by_ h)).map M.D) := by
    rw [List.map_map]
    refine lc_M K fun x hx => ?_
    have eb := e_law_by (bdb_bd (bdKs x (D.sub x hx))) bh (by decide)
    simp [eb]
  obtain ⟨W, hW⟩ : ∃ W, W = K.map (M.by_ h) := ⟨_, rfl⟩
  have gW : Grp W := by rw [hW]; exact led_grp D hd
  have bW : ∀ x ∈ W, x.bd 10 := by
    rw [hW]
    intro x hx
    obtain ⟨y, hy, rfl⟩ := List.mem_map.mp hx
    exact leb_bd (le y (D.sub y hy))
  have lW : W.length = K.length := by rw [hW, List.length_map]
  rw [← hW] at lb
  have l12 := D.len.2
  have lk : K.length ≤ 1000000 := by omega
  have gs := Lk77.Grp.perm gW (sM_perm W)
  have bs : ∀ x ∈ sM W, x.bd 10 := fun x hx => bW x ((sM_perm W).mem_iff.mp hx)
  have ls : (sM W).length ≤ 12 := by rw [(sM_perm W).length_eq]; omega
  have e1 := e_told_two gs bs (by decide) ls
  have bi : h.inv.bd 300 := bh.inv.mono (by decide)
  have s6 : Sd 320 10 h.inv.D6 := sd6 bi.1 bi.2.1 bi.2.2.1 bi.2.2.2 bd0 bd0
  have e2 := e_judged (n := 10) (S := sM W) (fun x hx => ⟨bs x hx, gs.det x hx⟩) (by decide) ls (ps := [.tuple [.str "square", h.inv.D6], .tuple [.str "hexagon", h.inv.D6]]) (fun p hp => by
    simp only [List.mem_cons, List.not_mem_nil, or_false] at hp
    rcases hp with rfl | rfl
    · exact pr_of (st_sd "square" (by decide)) s6
    · exact pr_of (st_sd "hexagon" (by decide)) s6)
  have s1 := shape_D W
  have s2 := srt_D W
  have ep := e_plain (n := 0) (x := h.inv)
  have kp := D.keep
  simp [l__law_part_two_1, kp, lb, lk, lW, wipeD, sortR, s1, s2, frz1, e1, e2, ep]
theorem e_part_two (ns : List Int) : f__law_part_two [.list (ns.map .int)] = some (.sh (.bool true)) := by
  obtain ⟨ds, ed, dl, _⟩ := e_draws ns 12 (by decide)
  rw [show ((12 : Nat) : Int) = 12 from rfl] at ed
  have at_k : ∀ k : Nat, k < 12 → atI (ds.map PyData.int) (k : Int) = some (.int (a0 ds k)) := fun k hk => by rw [atI_nat', ints_at ds (by omega)]
  have x10 : atI (ds.map PyData.int) 10 = some (.int (a0 ds 10)) := at_k 10 (by decide)
  have x11 : atI (ds.map PyData.int) 11 = some (.int (a0 ds 11)) := at_k 11 (by decide)
  obtain ⟨kd, k, K, h, ms, ep, D, hd, bh, hms, le, hl4⟩ := e_placed (ds := ds) (by omega)
  obtain ⟨xs, hxs, exs⟩ := led_list D hd hms
  have gms : ∀ m ∈ ms, Gm m := fun m hm => by
    obtain ⟨x, hx, rfl⟩ := hms m hm
    exact ⟨by rw [M.by_det hd]; exact dets x (D.sub x hx), le x (D.sub x hx)⟩
  have bms : ∀ m ∈ ms, m.bd 10 := fun m hm => leb_bd (gms m hm).2
  have ec := e_closed bms (by decide) hl4
  have lin : ∀ x ∈ law ms 13, ∃ y ∈ K, x = M.by_ h y := by
    rw [exs, by_law hd]
    intro x hx
    obtain ⟨y, hy, rfl⟩ := List.mem_map.mp hx
    exact ⟨y, law_in D.one D.mul hxs 13 y hy, rfl⟩
  have few : (law ms 13).length ≤ 12 := by
    have p := sub_perm (law_nd ms 13) (led_grp D hd).nd fun z hz => by
      obtain ⟨y, hy, rfl⟩ := lin z hz
      exact List.mem_map.mpr ⟨y, hy, rfl⟩
    rw [← p.length_eq]
    refine Nat.le_trans (List.length_filter_le _ _) ?_
    rw [List.length_map]
    exact D.len.2
  obtain ⟨S, g, hS, bS, hL, eg⟩ : ∃ S, Grp S ∧ S.length ≤ 12 ∧ (∀ x ∈ S, x.bd (1 + 12 * (10 + 1))) ∧ law ms 13 = S ∧ f_group_of [.list (ms.map M.D6)] = some (.ok (.fr ((sM S).map M.D6))) := by
    rcases group_two (fun m hm => (gms m hm).1) bms (by decide) hl4 with r | ⟨h13, _⟩
    · exact r
    · omega
  rw [hL] at ec lin
  obtain ⟨T, hT⟩ : ∃ T, T = sM S := ⟨_, rfl⟩
  have pT : T.Perm S := by rw [hT]; exact sM_perm S
  have gT := Lk77.Grp.perm g pT
  have bT : ∀ x ∈ T, x.bd (1 + 12 * (10 + 1)) := fun x hx => bS x (pT.mem_iff.mp hx)
  have lT : T.length ≤ 12 := by rw [pT.length_eq]; exact hS
  rw [← hT] at eg
  have ego : okD f_group_of [.list (ms.map M.D6)] = some (.fr (T.map M.D6)) := by unfold okD; rw [eg]
  have w1 := shape_D S
  have w2 := srt_D S
  rw [← hT] at w2
  have gd := gd_D6s (T := T) (fun x hx => (bT x hx).mono (by decide)) (by omega)
  have sm := e_same_refl 24 _ gd (by have := gd.deep; omega)
  have tt := e_told_two gT bT (by decide) lT
  have l1 : ms.length ≤ 1000000 := by omega
  have l2 : T.length ≤ 1000000 := by omega
  have di : h.inv.det = 1 := by rw [M.det_inv, hd]
  have fits : (T.all fun x => k (M.by_ h.inv x)) = true := List.all_eq_true.mpr fun x hx => by
    obtain ⟨y, hy, rfl⟩ := lin x (pT.mem_iff.mp hx)
    rw [by_back hd]
    exact D.fits y hy
  have bi : h.inv.bd 100 := bh.inv.mono (by decide)
  have rr := e_law_right (S := T) (n := 1 + 12 * (10 + 1)) (fun x hx => ⟨bT x hx, gT.det x hx⟩) (by decide) (kn_gd D.kn) (gd_D6 (bi.mono (by decide)))
  rw [rgt_ok D.kn di fits] at rr
  have epi := e_plain (n := 0) (x := h.inv)
  obtain ⟨p6, hp6, p6b⟩ : ∃ p : Nat, a0 ds 10 % 6 = (p : Int) ∧ p < 6 := ⟨(a0 ds 10 % 6).toNat, by omega, by omega⟩
  obtain ⟨ps, epr, hps, lps⟩ := e_pairs D.kn bi p6b
  have lps' : ps.length ≤ 1000000 := by omega
  obtain ⟨z, hz⟩ : ∃ z, z = a0 ds 11 % 4 := ⟨_, rfl⟩
  have jj := e_judged (n := 1 + 12 * (10 + 1)) (S := T) (fun x hx => ⟨bT x hx, gT.det x hx⟩) (by decide) lT (ps := pickD ps (some z) none (some 4)) fun p hp => hps p (pick_mem hp)
  have dv4 : divOk 4 := divOk_of (n := 20) (by decide) (by decide) (by decide)
  obtain ⟨kd', k', K', hat', D'⟩ := drn_at (d := a0 ds 11 / 4)
  have h3 : ixR (.sh h.D) (.sh (.int 3)) = some (.sh (.int h.d)) := by simp [M.D]
  have h1 : ixR (.sh h.D) (.sh (.int 1)) = some (.sh (.int h.b)) := by simp [M.D]
  have h2 : ixR (.sh h.D) (.sh (.int 2)) = some (.sh (.int h.c)) := by simp [M.D]
  have h0 : ixR (.sh h.D) (.sh (.int 0)) = some (.sh (.int h.a)) := by simp [M.D]
  have fi : PyData.tuple [.int h.d, .int (-h.b), .int (-h.c), .int h.a] = h.inv.D := rfl
  have f1 := one_two D' hd bh le (some (.sh (.list (ns.map .int)))) (some (.sh (.list (ds.map .int)))) (some (.sh (.str kd))) (some (.sh (.list (ms.map M.D)))) (some (.sh (.list (T.map M.D)))) (some (.sh (.list (T.map M.D6)))) none none
  have f2 := two_loop (some (.sh (.list (ns.map .int)))) (some (.sh (.list (ds.map .int)))) (some (.sh (.str kd))) (some (.sh h.D)) (some (.sh (.list (ms.map M.D)))) (some (.sh (.list (T.map M.D)))) (some (.sh (.list (T.map M.D6)))) (some (.sh h.inv.D)) none none none none
  rw [← lists3] at f2
  have s0 : (sSet 1 (eFn f__law_draws (aCons (eVar 0) (aCons (eC (.int 12)) aNil)))) [some (.sh (.list (ns.map .int))), none, none, none, none, none, none, none, none, none, none, none, none] = some (.nx [some (.sh (.list (ns.map .int))), some (.bo (ds.map .int)), none, none, none, none, none, none, none, none, none, none, none]) := by
    simp [ed]
  have s1 : (sFrz [1] (sUnp (gTp (gsC (gNm 2) (gsC (gNm 3) (gsC (gNm 4) gsN)))) (eFn f__law_placed_moves (aCons (eVar 1) (aCons (eC (.int 0)) aNil))))) [some (.sh (.list (ns.map .int))), some (.bo (ds.map .int)), none, none, none, none, none, none, none, none, none, none, none] = some (.nx [some (.sh (.list (ns.map .int))), some (.sh (.list (ds.map .int))), some (.sh (.str kd)), some (.sh h.D), some (.sh (.list (ms.map M.D))), none, none, none, none, none, none, none, none]) := by
    simp [frz1, ep]
  have s2 : (sSet 5 (eCall (on1 sortR) (aCons (eFn f__law_closed (aCons (eVar 4) aNil)) aNil))) [some (.sh (.list (ns.map .int))), some (.sh (.list (ds.map .int))), some (.sh (.str kd)), some (.sh h.D), some (.sh (.list (ms.map M.D))), none, none, none, none, none, none, none, none] = some (.nx [some (.sh (.list (ns.map .int))), some (.sh (.list (ds.map .int))), some (.sh (.str kd)), some (.sh h.D), some (.sh (.list (ms.map M.D))), some (.bo (T.map M.D)), none, none, none, none, none, none, none]) := by
    simp [ec, sortR, w1, w2]
  have s3 : (sSet 6 (eFn (okD f_group_of) (aCons (eLc (itSeq (eVar 4)) (gNm 11) tYesD (eFn f__law_plain (aCons (eVar 11) aNil)) [11]) aNil))) [some (.sh (.list (ns.map .int))), some (.sh (.list (ds.map .int))), some (.sh (.str kd)), some (.sh h.D), some (.sh (.list (ms.map M.D))), some (.bo (T.map M.D)), none, none, none, none, none, none, none] = some (.nx [some (.sh (.list (ns.map .int))), some (.sh (.list (ds.map .int))), some (.sh (.str kd)), some (.sh h.D), some (.sh (.list (ms.map M.D))), some (.bo (T.map M.D)), some (.bo (T.map M.D6)), none, none, none, none, none, none]) := by
    have lp := lc_plain (q := [some (.sh (.list (ns.map .int))), some (.sh (.list (ds.map .int))), some (.sh (.str kd)), some (.sh h.D), some (.sh (.list (ms.map M.D))), some (.bo (T.map M.D)), none, none, none, none, none, none, none]) (i := 11) (show 11 < 13 by decide) ms
    simp [lp, l1, wipeD, ego]
  have s4 : (sFrz [5, 6] (sIf (tOrD (tNotD (tOf (eFn (f__law_same 24) (aCons (eVar 6) (aCons (eLc (itSeq (eVar 5)) (gNm 12) tYesD (eFn f__law_plain (aCons (eVar 12) aNil)) [12]) aNil))))) (tNotD (tOf (eFn f__law_told_two (aCons (eVar 5) aNil)))))
  (sRet (eC (.bool false)))
  sPass)) [some (.sh (.list (ns.map .int))), some (.sh (.list (ds.map .int))), some (.sh (.str kd)), some (.sh h.D), some (.sh (.list (ms.map M.D))), some (.bo (T.map M.D)), some (.bo (T.map M.D6)), none, none, none, none, none, none] = some (.nx [some (.sh (.list (ns.map .int))), some (.sh (.list (ds.map .int))), some (.sh (.str kd)), some (.sh h.D), some (.sh (.list (ms.map M.D))), some (.sh (.list (T.map M.D))), some (.sh (.list (T.map M.D6))), none, none, none, none, none, none]) := by
    have lp := lc_plain (q := [some (.sh (.list (ns.map .int))), some (.sh (.list (ds.map .int))), some (.sh (.str kd)), some (.sh h.D), some (.sh (.list (ms.map M.D))), some (.sh (.list (T.map M.D))), some (.sh (.list (T.map M.D6))), none, none, none, none, none, none]) (i := 12) (show 12 < 13 by decide) T
    simp [frz1, lp, l2, wipeD, sm, tt]
  have s5 : (sSet 7 (eTup (aCons (eBin ixR (eVar 3) (eC (.int 3))) (aCons (eUn negR (eBin ixR (eVar 3) (eC (.int 1)))) (aCons (eUn negR (eBin ixR (eVar 3) (eC (.int 2)))) (aCons (eBin ixR (eVar 3) (eC (.int 0))) aNil)))))) [some (.sh (.list (ns.map .int))), some (.sh (.list (ds.map .int))), some (.sh (.str kd)), some (.sh h.D), some (.sh (.list (ms.map M.D))), some (.sh (.list (T.map M.D))), some (.sh (.list (T.map M.D6))), none, none, none, none, none, none] = some (.nx [some (.sh (.list (ns.map .int))), some (.sh (.list (ds.map .int))), some (.sh (.str kd)), some (.sh h.D), some (.sh (.list (ms.map M.D))), some (.sh (.list (T.map M.D))), some (.sh (.list (T.map M.D6))), some (.sh h.inv.D), none, none, none, none, none]) := by
    simp [h0, h1, h2, h3, fi]
  have s6 : (sFrz [5] (sIf (tOrD (tNotD (tOf (eFn f__law_right_standard (aCons (eVar 5) (aCons (eVar 2) (aCons (eFn f__law_plain (aCons (eVar 7) aNil)) aNil)))))) (tNotD (tOf (eFn f__law_judged (aCons (eVar 5) (aCons (eSl3 (eFn f__law_pairs (aCons (eVar 2) (aCons (eVar 7) (aCons (eBin modR (eBin ixR (eVar 1) (eC (.int 10))) (eC (.int 6))) aNil)))) (oIs (eBin modR (eBin ixR (eVar 1) (eC (.int 11))) (eC (.int 4)))) oNo (oIs (eC (.int 4)))) aNil))))))
  (sRet (eC (.bool false)))
  sPass)) [some (.sh (.list (ns.map .int))), some (.sh (.list (ds.map .int))), some (.sh (.str kd)), some (.sh h.D), some (.sh (.list (ms.map M.D))), some (.sh (.list (T.map M.D))), some (.sh (.list (T.map M.D6))), some (.sh h.inv.D), none, none, none, none, none] = some (.nx [some (.sh (.list (ns.map .int))), some (.sh (.list (ds.map .int))), some (.sh (.str kd)), some (.sh h.D), some (.sh (.list (ms.map M.D))), some (.sh (.list (T.map M.D))), some (.sh (.list (T.map M.D6))), some (.sh h.inv.D), none, none, none, none, none]) := by
    simp [frz1, epi, rr, x10, hp6, epr, x11, ← hz, jj]
  have s7 : (sFo [8, 9] (sPre [8, 9] (sFor (itSeq (eLst (aCons (eBin ixR (eLst (aCons (eC (.str "square")) (aCons (eC (.str "hexagon")) aNil))) (eBin modR (eBin fdivR (eBin ixR (eVar 1) (eC (.int 11))) (eC (.int 4))) (eC (.int 2)))) aNil))) (gNm 8)
  l__law_part_two_1))) [some (.sh (.list (ns.map .int))), some (.sh (.list (ds.map .int))), some (.sh (.str kd)), some (.sh h.D), some (.sh (.list (ms.map M.D))), some (.sh (.list (T.map M.D))), some (.sh (.list (T.map M.D6))), some (.sh h.inv.D), none, none, none, none, none] = some (.nx [some (.sh (.list (ns.map .int))), some (.sh (.list (ds.map .int))), some (.sh (.str kd)), some (.sh h.D), some (.sh (.list (ms.map M.D))), some (.sh (.list (T.map M.D))), some (.sh (.list (T.map M.D6))), some (.sh h.inv.D), none, none, none, none, none]) := by
    simp [x11, dv4, hat', f1]
  have s8 : (sFo [10] (sPre [10] (sFor (itSeq (eLst (aCons (eLst (aCons (eTup (aCons (eC (.int 1)) (aCons (eC (.int 0)) (aCons (eC (.int 0)) (aCons (eC (.int 1)) aNil))))) aNil)) (aCons (eLst (aCons (eTup (aCons (eC (.int 1)) (aCons (eC (.int 0)) (aCons (eC (.int 0)) (aCons (eC (.int 1)) aNil))))) (aCons (eTup (aCons (eC (.int 1)) (aCons (eC (.int 1)) (aCons (eC (.int 0)) (aCons (eUn negR (eC (.int 1))) aNil))))) aNil))) (aCons (eLst (aCons (eTup (aCons (eC (.int 0)) (aCons (eC (.int 1)) (aCons (eC (.int 1)) (aCons (eC (.int 0)) aNil))))) (aCons (eTup (aCons (eC (.int 1)) (aCons (eC (.int 0)) (aCons (eC (.int 0)) (aCons (eC (.int 1)) aNil))))) aNil))) (aCons (eLst (aCons (eTup (aCons (eUn negR (eC (.int 1))) (aCons (eC (.int 0)) (aCons (eC (.int 0)) (aCons (eC (.int 1)) aNil))))) (aCons (eTup (aCons (eC (.int 1)) (aCons (eC (.int 0)) (aCons (eC (.int 0)) (aCons (eC (.int 1)) aNil))))) aNil))) aNil)))))) (gNm 10)
  l__law_part_two_2))) [some (.sh (.list (ns.map .int))), some (.sh (.list (ds.map .int))), some (.sh (.str kd)), some (.sh h.D), some (.sh (.list (ms.map M.D))), some (.sh (.list (T.map M.D))), some (.sh (.list (T.map M.D6))), some (.sh h.inv.D), none, none, none, none, none] = some (.nx [some (.sh (.list (ns.map .int))), some (.sh (.list (ds.map .int))), some (.sh (.str kd)), some (.sh h.D), some (.sh (.list (ms.map M.D))), some (.sh (.list (T.map M.D))), some (.sh (.list (T.map M.D6))), some (.sh h.inv.D), none, none, none, none, none]) := by
    simp [f2]
  have s9 : (sFrz [5] (sRet (eFn f__law_told_two (aCons (eVar 5) aNil)))) [some (.sh (.list (ns.map .int))), some (.sh (.list (ds.map .int))), some (.sh (.str kd)), some (.sh h.D), some (.sh (.list (ms.map M.D))), some (.sh (.list (T.map M.D))), some (.sh (.list (T.map M.D6))), some (.sh h.inv.D), none, none, none, none, none] = some (.rt (.sh (.bool true))) := by
    simp [frz1, tt]
  have e0 : f__law_part_two [.list (ns.map .int)] = finD (b__law_part_two [some (.sh (.list (ns.map .int))), none, none, none, none, none, none, none, none, none, none, none, none]) := fnD_1
  rw [e0, b__law_part_two, seq_run s0, seq_run s1, seq_run s2, seq_run s3, seq_run s4, seq_run s5, seq_run s6, seq_run s7, seq_run s8, s9]
  rfl
theorem law_data (ns : List Int) (hl : ns.length ≤ 63) : f_law [.list (ns.map .int)] = some (.sh (.bool true)) := by
  have e1 := e_part_one ns
  have e2 := e_part_two ns
  simp [f_law, b_law, e1, e2]
end Lk77
set_option maxRecDepth 100000
set_option maxHeartbeats 4000000
namespace Lk77
open PySem PySem.Spec PyProof.Rows L2 F3
def topS (i : Nat) : Stmt := PySem.Challenge.pw_gridplots_k77_groups_of_moves.main.body.getD i (.Pass ⟨0, 0, 0, 0⟩)
abbrev s_from_to : Stmt := topS 1
abbrev N_from_to : List Str := ["first", "second"]
theorem sc_from_to : FnScope N_from_to ["first", "second"] (defScope s_from_to) := ⟨rfl, rfl, rfl, by decide +kernel, rfl, by decide +kernel, by decide +kernel⟩
abbrev s_taken : Stmt := topS 2
abbrev N_taken : List Str := ["vector", "times"]
theorem sc_taken : FnScope N_taken ["vector", "times"] (defScope s_taken) := ⟨rfl, rfl, rfl, by decide +kernel, rfl, by decide +kernel, by decide +kernel⟩
abbrev s_is_number : Stmt := topS 9
abbrev N_is_number : List Str := ["value"]
theorem sc_is_number : FnScope N_is_number ["value"] (defScope s_is_number) := ⟨rfl, rfl, rfl, by decide +kernel, rfl, by decide +kernel, by decide +kernel⟩
abbrev s_is_number_tuple : Stmt := topS 10
abbrev N_is_number_tuple : List Str := ["value", "width", "item"]
theorem sc_is_number_tuple : FnScope N_is_number_tuple ["value", "width"] (defScope s_is_number_tuple) := ⟨rfl, rfl, rfl, by decide +kernel, rfl, by decide +kernel, by decide +kernel⟩
abbrev s_strength : Stmt := topS 13
abbrev N_strength : List Str := ["move"]
theorem sc_strength : FnScope N_strength ["move"] (defScope s_strength) := ⟨rfl, rfl, rfl, by decide +kernel, rfl, by decide +kernel, by decide +kernel⟩
abbrev s_is_move : Stmt := topS 14
abbrev N_is_move : List Str := ["value"]
theorem sc_is_move : FnScope N_is_move ["value"] (defScope s_is_move) := ⟨rfl, rfl, rfl, by decide +kernel, rfl, by decide +kernel, by decide +kernel⟩
abbrev s_is_plain : Stmt := topS 15
abbrev N_is_plain : List Str := ["move"]
theorem sc_is_plain : FnScope N_is_plain ["move"] (defScope s_is_plain) := ⟨rfl, rfl, rfl, by decide +kernel, rfl, by decide +kernel, by decide +kernel⟩
abbrev s_sent : Stmt := topS 16
abbrev N_sent : List Str := ["move", "point", "a", "b", "c", "d", "e", "f", "x", "y"]
theorem sc_sent : FnScope N_sent ["move", "point"] (defScope s_sent) := ⟨rfl, rfl, rfl, by decide +kernel, rfl, by decide +kernel, by decide +kernel⟩
abbrev s_sent_vector : Stmt := topS 17
abbrev N_sent_vector : List Str := ["move", "vector", "a", "b", "c", "d", "e", "f", "x", "y"]
theorem sc_sent_vector : FnScope N_sent_vector ["move", "vector"] (defScope s_sent_vector) := ⟨rfl, rfl, rfl, by decide +kernel, rfl, by decide +kernel, by decide +kernel⟩
abbrev s_after : Stmt := topS 18
abbrev N_after : List Str := ["first", "second", "a", "b", "c", "d", "e", "f", "left", "right", "corner"]
theorem sc_after : FnScope N_after ["first", "second"] (defScope s_after) := ⟨rfl, rfl, rfl, by decide +kernel, rfl, by decide +kernel, by decide +kernel⟩
abbrev s_undoing : Stmt := topS 19
abbrev N_undoing : List Str := ["move", "a", "b", "c", "d", "e", "f", "times", "back", "corner"]
theorem sc_undoing : FnScope N_undoing ["move"] (defScope s_undoing) := ⟨rfl, rfl, rfl, by decide +kernel, rfl, by decide +kernel, by decide +kernel⟩
abbrev s_nearest : Stmt := topS 21
abbrev N_nearest : List Str := ["first", "second"]
theorem sc_nearest : FnScope N_nearest ["first", "second"] (defScope s_nearest) := ⟨rfl, rfl, rfl, by decide +kernel, rfl, by decide +kernel, by decide +kernel⟩
abbrev s_form_of : Stmt := topS 23
abbrev N_form_of : List Str := ["group", "first", "mixed", "second", "move"]
theorem sc_form_of : FnScope N_form_of ["group"] (defScope s_form_of) := ⟨rfl, rfl, rfl, by decide +kernel, rfl, by decide +kernel, by decide +kernel⟩
abbrev s_mixed_value : Stmt := topS 24
abbrev N_mixed_value : List Str := ["form", "first", "second", "both"]
theorem sc_mixed_value : FnScope N_mixed_value ["form", "first", "second"] (defScope s_mixed_value) := ⟨rfl, rfl, rfl, by decide +kernel, rfl, by decide +kernel, by decide +kernel⟩
abbrev s_straightened : Stmt := topS 25
abbrev N_straightened : List Str := ["form", "vector", "other", "times"]
theorem sc_straightened : FnScope N_straightened ["form", "vector", "other"] (defScope s_straightened) := ⟨rfl, rfl, rfl, by decide +kernel, rfl, by decide +kernel, by decide +kernel⟩
abbrev s_least_basis : Stmt := topS 26
abbrev N_least_basis : List Str := ["form", "first", "second"]
theorem sc_least_basis : FnScope N_least_basis ["form"] (defScope s_least_basis) := ⟨rfl, rfl, rfl, by decide +kernel, rfl, by decide +kernel, by decide +kernel⟩
abbrev s_settling : Stmt := topS 27
abbrev N_settling : List Str := ["form", "first", "second"]
theorem sc_settling : FnScope N_settling ["form"] (defScope s_settling) := ⟨rfl, rfl, rfl, by decide +kernel, rfl, by decide +kernel, by decide +kernel⟩
abbrev s_group_of : Stmt := topS 32
abbrev N_group_of : List Str := ["moves", "found", "at", "move", "product"]
theorem sc_group_of : FnScope N_group_of ["moves"] (defScope s_group_of) := ⟨rfl, rfl, rfl, by decide +kernel, rfl, by decide +kernel, by decide +kernel⟩
abbrev s_keeps_square : Stmt := topS 33
abbrev N_keeps_square : List Str := ["move"]
theorem sc_keeps_square : FnScope N_keeps_square ["move"] (defScope s_keeps_square) := ⟨rfl, rfl, rfl, by decide +kernel, rfl, by decide +kernel, by decide +kernel⟩
abbrev s_keeps_hexagon : Stmt := topS 34
abbrev N_keeps_hexagon : List Str := ["move", "a", "b", "c", "d"]
theorem sc_keeps_hexagon : FnScope N_keeps_hexagon ["move"] (defScope s_keeps_hexagon) := ⟨rfl, rfl, rfl, by decide +kernel, rfl, by decide +kernel, by decide +kernel⟩
abbrev s_made_by : Stmt := topS 35
abbrev N_made_by : List Str := ["group", "move", "item"]
theorem sc_made_by : FnScope N_made_by ["group", "move"] (defScope s_made_by) := ⟨rfl, rfl, rfl, by decide +kernel, rfl, by decide +kernel, by decide +kernel⟩
abbrev s_shows_standard : Stmt := topS 36
abbrev N_shows_standard : List Str := ["group", "kind", "move", "item"]
theorem sc_shows_standard : FnScope N_shows_standard ["group", "kind", "move"] (defScope s_shows_standard) := ⟨rfl, rfl, rfl, by decide +kernel, rfl, by decide +kernel, by decide +kernel⟩
abbrev s_standard_group : Stmt := topS 37
abbrev N_standard_group : List Str := ["group", "kind", "first", "fitting", "step"]
theorem sc_standard_group : FnScope N_standard_group ["group"] (defScope s_standard_group) := ⟨rfl, rfl, rfl, by decide +kernel, rfl, by decide +kernel, by decide +kernel⟩
abbrev s__law_draws : Stmt := topS 39
abbrev N__law_draws : List Str := ["script", "many", "found", "cell", "number", "k", "mixed", "base"]
theorem sc__law_draws : FnScope N__law_draws ["script", "many"] (defScope s__law_draws) := ⟨rfl, rfl, rfl, by decide +kernel, rfl, by decide +kernel, by decide +kernel⟩
abbrev s__law_is_number : Stmt := topS 40
abbrev N__law_is_number : List Str := ["value"]
theorem sc__law_is_number : FnScope N__law_is_number ["value"] (defScope s__law_is_number) := ⟨rfl, rfl, rfl, by decide +kernel, rfl, by decide +kernel, by decide +kernel⟩
abbrev s__law_same : Stmt := topS 41
abbrev N__law_same : List Str := ["told", "due", "k"]
theorem sc__law_same : FnScope N__law_same ["told", "due"] (defScope s__law_same) := ⟨rfl, rfl, rfl, by decide +kernel, rfl, by decide +kernel, by decide +kernel⟩
abbrev s__law_even : Stmt := topS 42
abbrev N__law_even : List Str := ["draws", "at", "steps", "most", "a", "b", "c", "d", "k", "times"]
theorem sc__law_even : FnScope N__law_even ["draws", "at", "steps", "most"] (defScope s__law_even) := ⟨rfl, rfl, rfl, by decide +kernel, rfl, by decide +kernel, by decide +kernel⟩
abbrev s__law_times : Stmt := topS 43
abbrev N__law_times : List Str := ["first", "second", "a", "b", "c", "d", "e", "f", "g", "h"]
theorem sc__law_times : FnScope N__law_times ["first", "second"] (defScope s__law_times) := ⟨rfl, rfl, rfl, by decide +kernel, rfl, by decide +kernel, by decide +kernel⟩
abbrev s__law_by : Stmt := topS 44
abbrev N__law_by : List Str := ["h", "turn"]
theorem sc__law_by : FnScope N__law_by ["h", "turn"] (defScope s__law_by) := ⟨rfl, rfl, rfl, by decide +kernel, rfl, by decide +kernel, by decide +kernel⟩
abbrev s__law_keeps : Stmt := topS 49
abbrev N__law_keeps : List Str := ["kind", "turn", "a", "b", "c", "d", "corners", "x", "y"]
theorem sc__law_keeps : FnScope N__law_keeps ["kind", "turn"] (defScope s__law_keeps) := ⟨rfl, rfl, rfl, by decide +kernel, rfl, by decide +kernel, by decide +kernel⟩
abbrev s__law_keeping : Stmt := topS 45
abbrev N__law_keeping : List Str := ["kind", "found", "a", "b", "c", "d"]
theorem sc__law_keeping : FnScope N__law_keeping ["kind"] (defScope s__law_keeping) := ⟨rfl, rfl, rfl, by decide +kernel, rfl, by decide +kernel, by decide +kernel⟩
abbrev s__law_plain : Stmt := topS 46
abbrev N__law_plain : List Str := ["turn"]
theorem sc__law_plain : FnScope N__law_plain ["turn"] (defScope s__law_plain) := ⟨rfl, rfl, rfl, by decide +kernel, rfl, by decide +kernel, by decide +kernel⟩
abbrev s__law_closed : Stmt := topS 47
abbrev N__law_closed : List Str := ["moves", "found", "k", "move", "product"]
theorem sc__law_closed : FnScope N__law_closed ["moves"] (defScope s__law_closed) := ⟨rfl, rfl, rfl, by decide +kernel, rfl, by decide +kernel, by decide +kernel⟩
abbrev s__law_placed_moves : Stmt := topS 48
abbrev N__law_placed_moves : List Str := ["draws", "at", "kind", "keeping", "h", "moves", "k"]
theorem sc__law_placed_moves : FnScope N__law_placed_moves ["draws", "at"] (defScope s__law_placed_moves) := ⟨rfl, rfl, rfl, by decide +kernel, rfl, by decide +kernel, by decide +kernel⟩
abbrev s__law_world : Stmt := topS 50
abbrev N__law_world : List Str := ["draws", "kind", "h", "moves", "many", "most", "found", "k", "move"]
theorem sc__law_world : FnScope N__law_world ["draws"] (defScope s__law_world) := ⟨rfl, rfl, rfl, by decide +kernel, rfl, by decide +kernel, by decide +kernel⟩
abbrev s__law_told : Stmt := topS 51
abbrev N__law_told : List Str := ["moves", "passed", "closed", "told", "refused", "error", "other", "one", "strength_v", "back", "move"]
theorem sc__law_told : FnScope N__law_told ["moves"] (defScope s__law_told) := ⟨rfl, rfl, rfl, by decide +kernel, rfl, by decide +kernel, by decide +kernel⟩
abbrev s__law_part_one : Stmt := topS 52
abbrev N__law_part_one : List Str := ["script", "draws", "moves", "move", "small", "number"]
theorem sc__law_part_one : FnScope N__law_part_one ["script"] (defScope s__law_part_one) := ⟨rfl, rfl, rfl, by decide +kernel, rfl, by decide +kernel, by decide +kernel⟩
abbrev s__law_is_tuple : Stmt := topS 53
abbrev N__law_is_tuple : List Str := ["value", "width", "item"]
theorem sc__law_is_tuple : FnScope N__law_is_tuple ["value", "width"] (defScope s__law_is_tuple) := ⟨rfl, rfl, rfl, by decide +kernel, rfl, by decide +kernel, by decide +kernel⟩
abbrev s__law_fresh : Stmt := topS 54
abbrev N__law_fresh : List Str := ["value", "item"]
theorem sc__law_fresh : FnScope N__law_fresh ["value"] (defScope s__law_fresh) := ⟨rfl, rfl, rfl, by decide +kernel, rfl, by decide +kernel, by decide +kernel⟩
abbrev s__law_square_fits : Stmt := topS 55
abbrev N__law_square_fits : List Str := ["kind", "moves", "h", "a", "b", "c", "d", "back", "move"]
theorem sc__law_square_fits : FnScope N__law_square_fits ["kind", "moves", "h"] (defScope s__law_square_fits) := ⟨rfl, rfl, rfl, by decide +kernel, rfl, by decide +kernel, by decide +kernel⟩
abbrev s__law_right_standard : Stmt := topS 56
abbrev N__law_right_standard : List Str := ["moves", "kind", "move"]
theorem sc__law_right_standard : FnScope N__law_right_standard ["moves", "kind", "move"] (defScope s__law_right_standard) := ⟨rfl, rfl, rfl, by decide +kernel, rfl, by decide +kernel, by decide +kernel⟩
abbrev s__law_judged : Stmt := topS 57
abbrev N__law_judged : List Str := ["turns", "pairs", "moves", "one", "other", "passed", "told", "turn"]
theorem sc__law_judged : FnScope N__law_judged ["turns", "pairs"] (defScope s__law_judged) := ⟨rfl, rfl, rfl, by decide +kernel, rfl, by decide +kernel, by decide +kernel⟩
abbrev s__law_told_two : Stmt := topS 58
abbrev N__law_told_two : List Str := ["turns", "moves", "told", "kind", "turn"]
theorem sc__law_told_two : FnScope N__law_told_two ["turns"] (defScope s__law_told_two) := ⟨rfl, rfl, rfl, by decide +kernel, rfl, by decide +kernel, by decide +kernel⟩
abbrev s__law_pairs : Stmt := topS 59
abbrev N__law_pairs : List Str := ["kind", "h", "at", "move", "pairs", "item", "a", "b", "c", "d", "e", "f", "turn"]
theorem sc__law_pairs : FnScope N__law_pairs ["kind", "h", "at"] (defScope s__law_pairs) := ⟨rfl, rfl, rfl, by decide +kernel, rfl, by decide +kernel, by decide +kernel⟩
abbrev s__law_part_two : Stmt := topS 60
abbrev N__law_part_two : List Str := ["script", "draws", "kind", "h", "moves", "turns", "listed", "back", "name", "whole", "small", "move", "turn"]
theorem sc__law_part_two : FnScope N__law_part_two ["script"] (defScope s__law_part_two) := ⟨rfl, rfl, rfl, by decide +kernel, rfl, by decide +kernel, by decide +kernel⟩
abbrev s_law : Stmt := topS 61
abbrev N_law : List Str := ["script"]
theorem sc_law : FnScope N_law ["script"] (defScope s_law) := ⟨rfl, rfl, rfl, by decide +kernel, rfl, by decide +kernel, by decide +kernel⟩
structure Top (P : Program) (K : PySem.W.Frag) (mg : Str → Option Value) where
  a_from_to : Addr
  fd_from_to : FuncData
  F_from_to : Fun K "from_to" "from_to" s_from_to a_from_to fd_from_to
  g_from_to : mg "from_to" = some (.ref a_from_to)
  B_from_to : Binds K fd_from_to ["first", "second"] []
  a_taken : Addr
  fd_taken : FuncData
  F_taken : Fun K "taken" "taken" s_taken a_taken fd_taken
  g_taken : mg "taken" = some (.ref a_taken)
  B_taken : Binds K fd_taken ["vector", "times"] []
  a_is_number : Addr
  fd_is_number : FuncData
  F_is_number : Fun K "is_number" "is_number" s_is_number a_is_number fd_is_number
  g_is_number : mg "is_number" = some (.ref a_is_number)
  B_is_number : Binds K fd_is_number ["value"] []
  a_is_number_tuple : Addr
  fd_is_number_tuple : FuncData
  F_is_number_tuple : Fun K "is_number_tuple" "is_number_tuple" s_is_number_tuple a_is_number_tuple fd_is_number_tuple
  g_is_number_tuple : mg "is_number_tuple" = some (.ref a_is_number_tuple)
  B_is_number_tuple : Binds K fd_is_number_tuple ["value", "width"] []
  a_strength : Addr
  fd_strength : FuncData
  F_strength : Fun K "strength" "strength" s_strength a_strength fd_strength
  g_strength : mg "strength" = some (.ref a_strength)
  B_strength : Binds K fd_strength ["move"] []
  a_is_move : Addr
  fd_is_move : FuncData
  F_is_move : Fun K "is_move" "is_move" s_is_move a_is_move fd_is_move
  g_is_move : mg "is_move" = some (.ref a_is_move)
  B_is_move : Binds K fd_is_move ["value"] []
  a_is_plain : Addr
  fd_is_plain : FuncData
  F_is_plain : Fun K "is_plain" "is_plain" s_is_plain a_is_plain fd_is_plain
  g_is_plain : mg "is_plain" = some (.ref a_is_plain)
  B_is_plain : Binds K fd_is_plain ["move"] []
  a_sent : Addr
  fd_sent : FuncData
  F_sent : Fun K "sent" "sent" s_sent a_sent fd_sent
  g_sent : mg "sent" = some (.ref a_sent)
  B_sent : Binds K fd_sent ["move", "point"] []
  a_sent_vector : Addr
  fd_sent_vector : FuncData
  F_sent_vector : Fun K "sent_vector" "sent_vector" s_sent_vector a_sent_vector fd_sent_vector
  g_sent_vector : mg "sent_vector" = some (.ref a_sent_vector)
  B_sent_vector : Binds K fd_sent_vector ["move", "vector"] []
  a_after : Addr
  fd_after : FuncData
  F_after : Fun K "after" "after" s_after a_after fd_after
  g_after : mg "after" = some (.ref a_after)
  B_after : Binds K fd_after ["first", "second"] []
  a_undoing : Addr
  fd_undoing : FuncData
  F_undoing : Fun K "undoing" "undoing" s_undoing a_undoing fd_undoing
  g_undoing : mg "undoing" = some (.ref a_undoing)
  B_undoing : Binds K fd_undoing ["move"] []
  a_nearest : Addr
  fd_nearest : FuncData
  F_nearest : Fun K "nearest" "nearest" s_nearest a_nearest fd_nearest
  g_nearest : mg "nearest" = some (.ref a_nearest)
  B_nearest : Binds K fd_nearest ["first", "second"] []
  a_form_of : Addr
  fd_form_of : FuncData
  F_form_of : Fun K "form_of" "form_of" s_form_of a_form_of fd_form_of
  g_form_of : mg "form_of" = some (.ref a_form_of)
  B_form_of : Binds K fd_form_of ["group"] []
  a_mixed_value : Addr
  fd_mixed_value : FuncData
  F_mixed_value : Fun K "mixed_value" "mixed_value" s_mixed_value a_mixed_value fd_mixed_value
  g_mixed_value : mg "mixed_value" = some (.ref a_mixed_value)
  B_mixed_value : Binds K fd_mixed_value ["form", "first", "second"] []
  a_straightened : Addr
  fd_straightened : FuncData
  F_straightened : Fun K "straightened" "straightened" s_straightened a_straightened fd_straightened
  g_straightened : mg "straightened" = some (.ref a_straightened)
  B_straightened : Binds K fd_straightened ["form", "vector", "other"] []
  a_least_basis : Addr
  fd_least_basis : FuncData
  F_least_basis : Fun K "least_basis" "least_basis" s_least_basis a_least_basis fd_least_basis
  g_least_basis : mg "least_basis" = some (.ref a_least_basis)
  B_least_basis : Binds K fd_least_basis ["form"] []
  a_settling : Addr
  fd_settling : FuncData
  F_settling : Fun K "settling" "settling" s_settling a_settling fd_settling
  g_settling : mg "settling" = some (.ref a_settling)
  B_settling : Binds K fd_settling ["form"] []
  a_group_of : Addr
  fd_group_of : FuncData
  F_group_of : Fun K "group_of" "group_of" s_group_of a_group_of fd_group_of
  g_group_of : mg "group_of" = some (.ref a_group_of)
  B_group_of : Binds K fd_group_of ["moves"] []
  a_keeps_square : Addr
  fd_keeps_square : FuncData
  F_keeps_square : Fun K "keeps_square" "keeps_square" s_keeps_square a_keeps_square fd_keeps_square
  g_keeps_square : mg "keeps_square" = some (.ref a_keeps_square)
  B_keeps_square : Binds K fd_keeps_square ["move"] []
  a_keeps_hexagon : Addr
  fd_keeps_hexagon : FuncData
  F_keeps_hexagon : Fun K "keeps_hexagon" "keeps_hexagon" s_keeps_hexagon a_keeps_hexagon fd_keeps_hexagon
  g_keeps_hexagon : mg "keeps_hexagon" = some (.ref a_keeps_hexagon)
  B_keeps_hexagon : Binds K fd_keeps_hexagon ["move"] []
  a_made_by : Addr
  fd_made_by : FuncData
  F_made_by : Fun K "made_by" "made_by" s_made_by a_made_by fd_made_by
  g_made_by : mg "made_by" = some (.ref a_made_by)
  B_made_by : Binds K fd_made_by ["group", "move"] []
  a_shows_standard : Addr
  fd_shows_standard : FuncData
  F_shows_standard : Fun K "shows_standard" "shows_standard" s_shows_standard a_shows_standard fd_shows_standard
  g_shows_standard : mg "shows_standard" = some (.ref a_shows_standard)
  B_shows_standard : Binds K fd_shows_standard ["group", "kind", "move"] []
  a_standard_group : Addr
  fd_standard_group : FuncData
  F_standard_group : Fun K "standard_group" "standard_group" s_standard_group a_standard_group fd_standard_group
  g_standard_group : mg "standard_group" = some (.ref a_standard_group)
  B_standard_group : Binds K fd_standard_group ["group"] []
  a__law_draws : Addr
  fd__law_draws : FuncData
  F__law_draws : Fun K "_law_draws" "_law_draws" s__law_draws a__law_draws fd__law_draws
  g__law_draws : mg "_law_draws" = some (.ref a__law_draws)
  B__law_draws : Binds K fd__law_draws ["script", "many"] []
  a__law_is_number : Addr
  fd__law_is_number : FuncData
  F__law_is_number : Fun K "_law_is_number" "_law_is_number" s__law_is_number a__law_is_number fd__law_is_number
  g__law_is_number : mg "_law_is_number" = some (.ref a__law_is_number)
  B__law_is_number : Binds K fd__law_is_number ["value"] []
  a__law_same : Addr
  fd__law_same : FuncData
  F__law_same : Fun K "_law_same" "_law_same" s__law_same a__law_same fd__law_same
  g__law_same : mg "_law_same" = some (.ref a__law_same)
  B__law_same : Binds K fd__law_same ["told", "due"] []
  a__law_even : Addr
  fd__law_even : FuncData
  F__law_even : Fun K "_law_even" "_law_even" s__law_even a__law_even fd__law_even
  g__law_even : mg "_law_even" = some (.ref a__law_even)
  B__law_even : Binds K fd__law_even ["draws", "at", "steps", "most"] []
  a__law_times : Addr
  fd__law_times : FuncData
  F__law_times : Fun K "_law_times" "_law_times" s__law_times a__law_times fd__law_times
  g__law_times : mg "_law_times" = some (.ref a__law_times)
  B__law_times : Binds K fd__law_times ["first", "second"] []
  a__law_by : Addr
  fd__law_by : FuncData
  F__law_by : Fun K "_law_by" "_law_by" s__law_by a__law_by fd__law_by
  g__law_by : mg "_law_by" = some (.ref a__law_by)
  B__law_by : Binds K fd__law_by ["h", "turn"] []
  a__law_keeps : Addr
  fd__law_keeps : FuncData
  F__law_keeps : Fun K "_law_keeps" "_law_keeps" s__law_keeps a__law_keeps fd__law_keeps
  g__law_keeps : mg "_law_keeps" = some (.ref a__law_keeps)
  B__law_keeps : Binds K fd__law_keeps ["kind", "turn"] []
  a__law_keeping : Addr
  fd__law_keeping : FuncData
  F__law_keeping : Fun K "_law_keeping" "_law_keeping" s__law_keeping a__law_keeping fd__law_keeping
  g__law_keeping : mg "_law_keeping" = some (.ref a__law_keeping)
  B__law_keeping : Binds K fd__law_keeping ["kind"] []
  a__law_plain : Addr
  fd__law_plain : FuncData
  F__law_plain : Fun K "_law_plain" "_law_plain" s__law_plain a__law_plain fd__law_plain
  g__law_plain : mg "_law_plain" = some (.ref a__law_plain)
  B__law_plain : Binds K fd__law_plain ["turn"] []
  a__law_closed : Addr
  fd__law_closed : FuncData
  F__law_closed : Fun K "_law_closed" "_law_closed" s__law_closed a__law_closed fd__law_closed
  g__law_closed : mg "_law_closed" = some (.ref a__law_closed)
  B__law_closed : Binds K fd__law_closed ["moves"] []
  a__law_placed_moves : Addr
  fd__law_placed_moves : FuncData
  F__law_placed_moves : Fun K "_law_placed_moves" "_law_placed_moves" s__law_placed_moves a__law_placed_moves fd__law_placed_moves
  g__law_placed_moves : mg "_law_placed_moves" = some (.ref a__law_placed_moves)
  B__law_placed_moves : Binds K fd__law_placed_moves ["draws", "at"] []
  a__law_world : Addr
  fd__law_world : FuncData
  F__law_world : Fun K "_law_world" "_law_world" s__law_world a__law_world fd__law_world
  g__law_world : mg "_law_world" = some (.ref a__law_world)
  B__law_world : Binds K fd__law_world ["draws"] []
  a__law_told : Addr
  fd__law_told : FuncData
  F__law_told : Fun K "_law_told" "_law_told" s__law_told a__law_told fd__law_told
  g__law_told : mg "_law_told" = some (.ref a__law_told)
  B__law_told : Binds K fd__law_told ["moves"] []
  a__law_part_one : Addr
  fd__law_part_one : FuncData
  F__law_part_one : Fun K "_law_part_one" "_law_part_one" s__law_part_one a__law_part_one fd__law_part_one
  g__law_part_one : mg "_law_part_one" = some (.ref a__law_part_one)
  B__law_part_one : Binds K fd__law_part_one ["script"] []
  a__law_is_tuple : Addr
  fd__law_is_tuple : FuncData
  F__law_is_tuple : Fun K "_law_is_tuple" "_law_is_tuple" s__law_is_tuple a__law_is_tuple fd__law_is_tuple
  g__law_is_tuple : mg "_law_is_tuple" = some (.ref a__law_is_tuple)
  B__law_is_tuple : Binds K fd__law_is_tuple ["value", "width"] []
  a__law_fresh : Addr
  fd__law_fresh : FuncData
  F__law_fresh : Fun K "_law_fresh" "_law_fresh" s__law_fresh a__law_fresh fd__law_fresh
  g__law_fresh : mg "_law_fresh" = some (.ref a__law_fresh)
  B__law_fresh : Binds K fd__law_fresh ["value"] []
  a__law_square_fits : Addr
  fd__law_square_fits : FuncData
  F__law_square_fits : Fun K "_law_square_fits" "_law_square_fits" s__law_square_fits a__law_square_fits fd__law_square_fits
  g__law_square_fits : mg "_law_square_fits" = some (.ref a__law_square_fits)
  B__law_square_fits : Binds K fd__law_square_fits ["kind", "moves", "h"] []
  a__law_right_standard : Addr
  fd__law_right_standard : FuncData
  F__law_right_standard : Fun K "_law_right_standard" "_law_right_standard" s__law_right_standard a__law_right_standard fd__law_right_standard
  g__law_right_standard : mg "_law_right_standard" = some (.ref a__law_right_standard)
  B__law_right_standard : Binds K fd__law_right_standard ["moves", "kind", "move"] []
  a__law_judged : Addr
  fd__law_judged : FuncData
  F__law_judged : Fun K "_law_judged" "_law_judged" s__law_judged a__law_judged fd__law_judged
  g__law_judged : mg "_law_judged" = some (.ref a__law_judged)
  B__law_judged : Binds K fd__law_judged ["turns", "pairs"] []
  a__law_told_two : Addr
  fd__law_told_two : FuncData
  F__law_told_two : Fun K "_law_told_two" "_law_told_two" s__law_told_two a__law_told_two fd__law_told_two
  g__law_told_two : mg "_law_told_two" = some (.ref a__law_told_two)
  B__law_told_two : Binds K fd__law_told_two ["turns"] []
  a__law_pairs : Addr
  fd__law_pairs : FuncData
  F__law_pairs : Fun K "_law_pairs" "_law_pairs" s__law_pairs a__law_pairs fd__law_pairs
  g__law_pairs : mg "_law_pairs" = some (.ref a__law_pairs)
  B__law_pairs : Binds K fd__law_pairs ["kind", "h", "at"] []
  a__law_part_two : Addr
  fd__law_part_two : FuncData
  F__law_part_two : Fun K "_law_part_two" "_law_part_two" s__law_part_two a__law_part_two fd__law_part_two
  g__law_part_two : mg "_law_part_two" = some (.ref a__law_part_two)
  B__law_part_two : Binds K fd__law_part_two ["script"] []
  a_law : Addr
  fd_law : FuncData
  F_law : Fun K "law" "law" s_law a_law fd_law
  g_law : mg "law" = some (.ref a_law)
  B_law : Binds K fd_law ["script"] []
  a_REST : Addr
  g_REST : mg "REST" = some (.ref a_REST)
  d_REST : ∀ H, Dp K H (.ref a_REST) c_REST
  t_MOST : Tok
  g_MOST : mg "MOST" = some (.int 12 t_MOST)
  a_HEXAGON : Addr
  g_HEXAGON : mg "HEXAGON" = some (.ref a_HEXAGON)
  d_HEXAGON : ∀ H, Dp K H (.ref a_HEXAGON) c_HEXAGON
  a_NEAR_MOVES : Addr
  g_NEAR_MOVES : mg "NEAR_MOVES" = some (.ref a_NEAR_MOVES)
  d_NEAR_MOVES : ∀ H, Dp K H (.ref a_NEAR_MOVES) c_NEAR_MOVES
  x_EndlessGroup : Addr
  g_EndlessGroup : mg "EndlessGroup" = some (.ref x_EndlessGroup)
  x_EndlessOrder : Addr
  g_EndlessOrder : mg "EndlessOrder" = some (.ref x_EndlessOrder)
  x_GridError : Addr
  g_GridError : mg "GridError" = some (.ref x_GridError)
  x_NotFlippable : Addr
  g_NotFlippable : mg "NotFlippable" = some (.ref x_NotFlippable)
  X_EndlessGroup : Ex0 P K x_EndlessGroup
  C_EndlessGroup : ExcC K x_EndlessGroup
  k_EndlessGroup_EndlessOrder : PySem.W.kitOne K (.ref x_EndlessGroup) (.ref x_EndlessOrder) = some false
  k_EndlessGroup_GridError : PySem.W.kitOne K (.ref x_EndlessGroup) (.ref x_GridError) = some true
  k_EndlessGroup_NotFlippable : PySem.W.kitOne K (.ref x_EndlessGroup) (.ref x_NotFlippable) = some false
  k_EndlessGroup_ValueError : PySem.W.kitOne K (.ref x_EndlessGroup) (.type "ValueError") = some true
  m_EndlessGroup_EndlessGroup : PySem.W.exmOne K (.ref x_EndlessGroup) (.ref x_EndlessGroup) = some true
  z_super : mg "super" = none
  z_ValueError : mg "ValueError" = none
  z_abs : mg "abs" = none
  z_bool : mg "bool" = none
  z_int : mg "int" = none
  z_isinstance : mg "isinstance" = none
  z_len : mg "len" = none
  z_list : mg "list" = none
  z_max : mg "max" = none
  z_range : mg "range" = none
  z_repr : mg "repr" = none
  z_sorted : mg "sorted" = none
  z_str : mg "str" = none
  z_sum : mg "sum" = none
  z_tuple : mg "tuple" = none
def clT {P : Program} {K : PySem.W.Frag} {mg : Str → Option Value} (T : Top P K mg) : Str → Value := fun t => if t = "EndlessGroup" then .ref T.x_EndlessGroup else .none
theorem clT_EndlessGroup {P : Program} {K : PySem.W.Frag} {mg : Str → Option Value} (T : Top P K mg) : clT T "EndlessGroup" = .ref T.x_EndlessGroup := by first | rfl | simp [clT]
end Lk77
set_option maxRecDepth 100000
set_option maxHeartbeats 4000000
namespace Lk77
open PySem PySem.Spec PyProof.Rows L2 F3
section
variable {P : Program} {w : World} {K : PySem.W.Frag} {mg : Str → Option Value} {base : Heap}
theorem ok_from_to (T : Top P K mg) : FnG P w K mg base 1 T.a_from_to T.fd_from_to ["first", "second"] (spD K 2 f_from_to) := by
  unfold f_from_to b_from_to
  refine fnG_data T.F_from_to sc_from_to rfl rfl fun cdv A outer s H hr hG => ?_
  refine ⟨_, (pss_one (ps_ret (pe_tup (pa_cons (pe_op op_sub (pe_ix ix_seq (pv 1) pe_int (fun _ _ => rfl)) (pe_ix ix_seq (pv 0) pe_int (fun _ _ => rfl))) (pa_cons (pe_op op_sub (pe_ix ix_seq (pv 1) pe_int (fun _ _ => rfl)) (pe_ix ix_seq (pv 0) pe_int (fun _ _ => rfl))) pa_nil))))), ?_⟩
  exact (sok_ret (eok_tup (aok_cons (eok_op r2_sub (eok_op r2_ix (eok_var 1) (eok_int 0)) (eok_op r2_ix (eok_var 0) (eok_int 0))) (aok_cons (eok_op r2_sub (eok_op r2_ix (eok_var 1) (eok_int 1)) (eok_op r2_ix (eok_var 0) (eok_int 1))) aok_nil))))
end
section
variable {P : Program} {w : World} {K : PySem.W.Frag} {mg : Str → Option Value} {base : Heap}
theorem ok_taken (T : Top P K mg) : FnG P w K mg base 1 T.a_taken T.fd_taken ["vector", "times"] (spD K 2 f_taken) := by
  unfold f_taken b_taken
  refine fnG_data T.F_taken sc_taken rfl rfl fun cdv A outer s H hr hG => ?_
  refine ⟨_, (pss_one (ps_ret (pe_tup (pa_cons (pe_op op_mulW (pe_ix ix_seq (pv 0) pe_int (fun _ _ => rfl)) (pv 1)) (pa_cons (pe_op op_mulW (pe_ix ix_seq (pv 0) pe_int (fun _ _ => rfl)) (pv 1)) pa_nil))))), ?_⟩
  exact (sok_ret (eok_tup (aok_cons (eok_op r2_mulI (eok_op r2_ix (eok_var 0) (eok_int 0)) (eok_var 1)) (aok_cons (eok_op r2_mulI (eok_op r2_ix (eok_var 0) (eok_int 1)) (eok_var 1)) aok_nil))))
end
section
variable {P : Program} {w : World} {K : PySem.W.Frag} {mg : Str → Option Value} {base : Heap}
theorem ok_is_number (T : Top P K mg) : FnG P w K mg base 1 T.a_is_number T.fd_is_number ["value"] (spD K 1 f_is_number) := by
  unfold f_is_number b_is_number
  refine fnG_data T.F_is_number sc_is_number rfl rfl fun cdv A outer s H hr hG => ?_
  refine ⟨_, (pss_one (ps_ret (pe_and (pe_callB call_isi (by rfl) T.z_isinstance bt_isinstance (pa_cons (pv 0) (pa_cons (pe_bltn (v := .ty "int") (by rfl) T.z_int bt_int rfl) pa_nil))) (pe_one (pe_not (pe_callB call_isi (by rfl) T.z_isinstance bt_isinstance (pa_cons (pv 0) (pa_cons (pe_bltn (v := .ty "bool") (by rfl) T.z_bool bt_bool rfl) pa_nil)))))))), ?_⟩
  exact (sok_ret (eok_and (eok_isi .int (eok_var 0)) (eok_not (eok_isi .bool (eok_var 0)))))
end
section
variable {P : Program} {w : World} {K : PySem.W.Frag} {mg : Str → Option Value} {base : Heap}
theorem ok_is_number_tuple (T : Top P K mg) : FnG P w K mg base 2 T.a_is_number_tuple T.fd_is_number_tuple ["value", "width"] (spD K 2 f_is_number_tuple) := by
  unfold f_is_number_tuple b_is_number_tuple
  refine fnG_data T.F_is_number_tuple sc_is_number_tuple rfl rfl fun cdv A outer s H hr hG => ?_
  refine ⟨_, (pss_cons (ps_if (PW.pt (pw_or (pt_not (pt_val (pe_callB call_isi (by rfl) T.z_isinstance bt_isinstance (pa_cons (pv 0) (pa_cons (pe_bltn (v := .ty "tuple") (by rfl) T.z_tuple bt_tuple rfl) pa_nil))))) (pw_or1 (pt_cmpR (op_neA hr.units) (pe_callB call_lenA (by rfl) T.z_len bt_len (pa_cons (pv 0) pa_nil)) (pv 1) (nomark _)))))
  (pss_one (ps_ret pe_bl))
  pss_nil)
 (pss_cons (ps_for PassesOwn.never rfl (pi_seq (pv 0)) (pg_name (i := 2) sc_is_number_tuple.nd rfl (Or.inl rfl))
  (pss_one (ps_if (pt_not (pt_val (pe_callG (ok_is_number T) (hr.mono (by omega)) hG (by rfl) T.g_is_number T.F_is_number.kp T.B_is_number (pa_cons (pv 2) pa_nil))))
  (pss_one (ps_ret pe_bl))
  pss_nil)))
 (pss_one (ps_ret pe_bl)))), ?_⟩
  exact (sok_seq (sok_if (tok_or (tok_not (tok_val (eok_isi .tuple (eok_var 0)))) (tok_test (eok_op r2_ne (eok_callB F3.cr_len (aok_cons (eok_var 0) aok_nil)) (eok_var 1))))
  (sok_ret (eok_bool false))
  sok_pass)
 (sok_seq (sok_fo [2] (sok_pre [2] (sok_for (iok_seq (eok_var 0)) (gok_name 2)
  (sok_fo [2] (sok_if (tok_not (tok_val (eok_fn (aok_cons (eok_var 2) aok_nil) (an_cons an_nil))))
  (sok_ret (eok_bool false))
  sok_pass)))))
 (sok_ret (eok_bool true))))
end
section
variable {P : Program} {w : World} {K : PySem.W.Frag} {mg : Str → Option Value} {base : Heap}
theorem ok_strength (T : Top P K mg) : FnG P w K mg base 1 T.a_strength T.fd_strength ["move"] (spD K 1 f_strength) := by
  unfold f_strength b_strength
  refine fnG_data T.F_strength sc_strength rfl rfl fun cdv A outer s H hr hG => ?_
  refine ⟨_, (pss_one (ps_ret (pe_op op_sub (pe_op op_mulW (pe_ix ix_seq (pv 0) pe_int (fun _ _ => rfl)) (pe_ix ix_seq (pv 0) pe_int (fun _ _ => rfl))) (pe_op op_mulW (pe_ix ix_seq (pv 0) pe_int (fun _ _ => rfl)) (pe_ix ix_seq (pv 0) pe_int (fun _ _ => rfl)))))), ?_⟩
  exact (sok_ret (eok_op r2_sub (eok_op r2_mulI (eok_op r2_ix (eok_var 0) (eok_int 0)) (eok_op r2_ix (eok_var 0) (eok_int 3))) (eok_op r2_mulI (eok_op r2_ix (eok_var 0) (eok_int 1)) (eok_op r2_ix (eok_var 0) (eok_int 2)))))
end
section
variable {P : Program} {w : World} {K : PySem.W.Frag} {mg : Str → Option Value} {base : Heap}
theorem ok_is_move (T : Top P K mg) : FnG P w K mg base 3 T.a_is_move T.fd_is_move ["value"] (spD K 1 f_is_move) := by
  unfold f_is_move b_is_move
  refine fnG_data T.F_is_move sc_is_move rfl rfl fun cdv A outer s H hr hG => ?_
  refine ⟨_, (pss_one (ps_ret (pe_and (pe_callG (ok_is_number_tuple T) (hr.mono (by omega)) hG (by rfl) T.g_is_number_tuple T.F_is_number_tuple.kp T.B_is_number_tuple (pa_cons (pv 0) (pa_cons pe_int pa_nil))) (pe_one (pe_cmpR (op_inA (ru65 hr)) (pe_callG (ok_strength T) (hr.mono (by omega)) hG (by rfl) T.g_strength T.F_strength.kp T.B_strength (pa_cons (pv 0) pa_nil)) (pe_tup (pa_cons pe_int (pa_cons (pe_un un_neg pe_int) pa_nil))) (by rfl)))))), ?_⟩
  exact (sok_ret (eok_and (eok_fn (aok_cons (eok_var 0) (aok_cons (eok_int 6) aok_nil)) (an_cons (an_cons an_nil))) (eok_op (r2_in false) (eok_fn (aok_cons (eok_var 0) aok_nil) (an_cons an_nil)) (eok_tup (aok_cons (eok_int 1) (aok_cons (eok_un r1_neg (eok_int 1)) aok_nil))))))
end
section
variable {P : Program} {w : World} {K : PySem.W.Frag} {mg : Str → Option Value} {base : Heap}
theorem ok_is_plain (T : Top P K mg) : FnG P w K mg base 1 T.a_is_plain T.fd_is_plain ["move"] (spD K 1 f_is_plain) := by
  unfold f_is_plain b_is_plain
  refine fnG_data T.F_is_plain sc_is_plain rfl rfl fun cdv A outer s H hr hG => ?_
  refine ⟨_, (pss_one (ps_ret (pe_and (pe_cmpR (op_eqA hr.units) (pe_ix ix_seq (pv 0) pe_int (fun _ _ => rfl)) pe_int (nomark _)) (pe_one (pe_cmpR (op_eqA hr.units) (pe_ix ix_seq (pv 0) pe_int (fun _ _ => rfl)) pe_int (nomark _)))))), ?_⟩
  exact (sok_ret (eok_and (eok_op r2_eq (eok_op r2_ix (eok_var 0) (eok_int 4)) (eok_int 0)) (eok_op r2_eq (eok_op r2_ix (eok_var 0) (eok_int 5)) (eok_int 0))))
end
section
variable {P : Program} {w : World} {K : PySem.W.Frag} {mg : Str → Option Value} {base : Heap}
theorem ok_sent (T : Top P K mg) : FnG P w K mg base 1 T.a_sent T.fd_sent ["move", "point"] (spD K 2 f_sent) := by
  unfold f_sent b_sent
  refine fnG_data T.F_sent sc_sent rfl rfl fun cdv A outer s H hr hG => ?_
  refine ⟨_, (pss_cons (ps_asg (pv 0) (pg_tup rfl (pgs_cons (pg_name (i := 2) sc_sent.nd rfl (Or.inl rfl)) (pgs_cons (pg_name (i := 3) sc_sent.nd rfl (Or.inl rfl)) (pgs_cons (pg_name (i := 4) sc_sent.nd rfl (Or.inl rfl)) (pgs_cons (pg_name (i := 5) sc_sent.nd rfl (Or.inl rfl)) (pgs_cons (pg_name (i := 6) sc_sent.nd rfl (Or.inl rfl)) (pgs_cons (pg_name (i := 7) sc_sent.nd rfl (Or.inl rfl)) pgs_nil))))))))
 (pss_cons (ps_asg (pv 1) (pg_tup rfl (pgs_cons (pg_name (i := 8) sc_sent.nd rfl (Or.inl rfl)) (pgs_cons (pg_name (i := 9) sc_sent.nd rfl (Or.inl rfl)) pgs_nil))))
 (pss_one (ps_ret (pe_tup (pa_cons (pe_op op_add4 (pe_op op_add4 (pe_op op_mulW (pv 2) (pv 8)) (pe_op op_mulW (pv 3) (pv 9))) (pv 6)) (pa_cons (pe_op op_add4 (pe_op op_add4 (pe_op op_mulW (pv 4) (pv 8)) (pe_op op_mulW (pv 5) (pv 9))) (pv 7)) pa_nil))))))), ?_⟩
  exact (sok_seq (sok_unp (gok_tup (gsok_cons (gok_name 2) (gsok_cons (gok_name 3) (gsok_cons (gok_name 4) (gsok_cons (gok_name 5) (gsok_cons (gok_name 6) (gsok_cons (gok_name 7) gsok_nil)))))) (gs_len (gs_len (gs_len (gs_len (gs_len (gs_len gs_len0 _) _) _) _) _) _)) (eok_var 0))
 (sok_seq (sok_unp (gok_tup (gsok_cons (gok_name 8) (gsok_cons (gok_name 9) gsok_nil)) (gs_len (gs_len gs_len0 _) _)) (eok_var 1))
 (sok_ret (eok_tup (aok_cons (eok_op r2_add (eok_op r2_add (eok_op r2_mulI (eok_var 2) (eok_var 8)) (eok_op r2_mulI (eok_var 3) (eok_var 9))) (eok_var 6)) (aok_cons (eok_op r2_add (eok_op r2_add (eok_op r2_mulI (eok_var 4) (eok_var 8)) (eok_op r2_mulI (eok_var 5) (eok_var 9))) (eok_var 7)) aok_nil))))))
end
end Lk77
set_option maxRecDepth 100000
set_option maxHeartbeats 4000000
namespace Lk77
open PySem PySem.Spec PyProof.Rows L2 F3
section
variable {P : Program} {w : World} {K : PySem.W.Frag} {mg : Str → Option Value} {base : Heap}
theorem ok_sent_vector (T : Top P K mg) : FnG P w K mg base 1 T.a_sent_vector T.fd_sent_vector ["move", "vector"] (spD K 2 f_sent_vector) := by
  unfold f_sent_vector b_sent_vector
  refine fnG_data T.F_sent_vector sc_sent_vector rfl rfl fun cdv A outer s H hr hG => ?_
  refine ⟨_, (pss_cons (ps_asg (pv 0) (pg_tup rfl (pgs_cons (pg_name (i := 2) sc_sent_vector.nd rfl (Or.inl rfl)) (pgs_cons (pg_name (i := 3) sc_sent_vector.nd rfl (Or.inl rfl)) (pgs_cons (pg_name (i := 4) sc_sent_vector.nd rfl (Or.inl rfl)) (pgs_cons (pg_name (i := 5) sc_sent_vector.nd rfl (Or.inl rfl)) (pgs_cons (pg_name (i := 6) sc_sent_vector.nd rfl (Or.inl rfl)) (pgs_cons (pg_name (i := 7) sc_sent_vector.nd rfl (Or.inl rfl)) pgs_nil))))))))
 (pss_cons (ps_asg (pv 1) (pg_tup rfl (pgs_cons (pg_name (i := 8) sc_sent_vector.nd rfl (Or.inl rfl)) (pgs_cons (pg_name (i := 9) sc_sent_vector.nd rfl (Or.inl rfl)) pgs_nil))))
 (pss_one (ps_ret (pe_tup (pa_cons (pe_op op_add4 (pe_op op_mulW (pv 2) (pv 8)) (pe_op op_mulW (pv 3) (pv 9))) (pa_cons (pe_op op_add4 (pe_op op_mulW (pv 4) (pv 8)) (pe_op op_mulW (pv 5) (pv 9))) pa_nil))))))), ?_⟩
  exact (sok_seq (sok_unp (gok_tup (gsok_cons (gok_name 2) (gsok_cons (gok_name 3) (gsok_cons (gok_name 4) (gsok_cons (gok_name 5) (gsok_cons (gok_name 6) (gsok_cons (gok_name 7) gsok_nil)))))) (gs_len (gs_len (gs_len (gs_len (gs_len (gs_len gs_len0 _) _) _) _) _) _)) (eok_var 0))
 (sok_seq (sok_unp (gok_tup (gsok_cons (gok_name 8) (gsok_cons (gok_name 9) gsok_nil)) (gs_len (gs_len gs_len0 _) _)) (eok_var 1))
 (sok_ret (eok_tup (aok_cons (eok_op r2_add (eok_op r2_mulI (eok_var 2) (eok_var 8)) (eok_op r2_mulI (eok_var 3) (eok_var 9))) (aok_cons (eok_op r2_add (eok_op r2_mulI (eok_var 4) (eok_var 8)) (eok_op r2_mulI (eok_var 5) (eok_var 9))) aok_nil))))))
end
section
variable {P : Program} {w : World} {K : PySem.W.Frag} {mg : Str → Option Value} {base : Heap}
theorem ok_after (T : Top P K mg) : FnG P w K mg base 2 T.a_after T.fd_after ["first", "second"] (spD K 2 f_after) := by
  unfold f_after b_after
  refine fnG_data T.F_after sc_after rfl rfl fun cdv A outer s H hr hG => ?_
  refine ⟨_, (pss_cons (ps_asg (pv 0) (pg_tup rfl (pgs_cons (pg_name (i := 2) sc_after.nd rfl (Or.inl rfl)) (pgs_cons (pg_name (i := 3) sc_after.nd rfl (Or.inl rfl)) (pgs_cons (pg_name (i := 4) sc_after.nd rfl (Or.inl rfl)) (pgs_cons (pg_name (i := 5) sc_after.nd rfl (Or.inl rfl)) (pgs_cons (pg_name (i := 6) sc_after.nd rfl (Or.inl rfl)) (pgs_cons (pg_name (i := 7) sc_after.nd rfl (Or.inl rfl)) pgs_nil))))))))
 (pss_cons (ps_set (i := 8) sc_after.nd rfl (Or.inl rfl) (pe_callG (ok_sent_vector T) (hr.mono (by omega)) hG (by rfl) T.g_sent_vector T.F_sent_vector.kp T.B_sent_vector (pa_cons (pv 1) (pa_cons (pe_tup (pa_cons (pv 2) (pa_cons (pv 4) pa_nil))) pa_nil))))
 (pss_cons (ps_set (i := 9) sc_after.nd rfl (Or.inl rfl) (pe_callG (ok_sent_vector T) (hr.mono (by omega)) hG (by rfl) T.g_sent_vector T.F_sent_vector.kp T.B_sent_vector (pa_cons (pv 1) (pa_cons (pe_tup (pa_cons (pv 3) (pa_cons (pv 5) pa_nil))) pa_nil))))
 (pss_cons (ps_set (i := 10) sc_after.nd rfl (Or.inl rfl) (pe_callG (ok_sent T) (hr.mono (by omega)) hG (by rfl) T.g_sent T.F_sent.kp T.B_sent (pa_cons (pv 1) (pa_cons (pe_tup (pa_cons (pv 6) (pa_cons (pv 7) pa_nil))) pa_nil))))
 (pss_one (ps_ret (pe_tup (pa_cons (pe_ix ix_seq (pv 8) pe_int (fun _ _ => rfl)) (pa_cons (pe_ix ix_seq (pv 9) pe_int (fun _ _ => rfl)) (pa_cons (pe_ix ix_seq (pv 8) pe_int (fun _ _ => rfl)) (pa_cons (pe_ix ix_seq (pv 9) pe_int (fun _ _ => rfl)) (pa_cons (pe_ix ix_seq (pv 10) pe_int (fun _ _ => rfl)) (pa_cons (pe_ix ix_seq (pv 10) pe_int (fun _ _ => rfl)) pa_nil))))))))))))), ?_⟩
  exact (sok_seq (sok_unp (gok_tup (gsok_cons (gok_name 2) (gsok_cons (gok_name 3) (gsok_cons (gok_name 4) (gsok_cons (gok_name 5) (gsok_cons (gok_name 6) (gsok_cons (gok_name 7) gsok_nil)))))) (gs_len (gs_len (gs_len (gs_len (gs_len (gs_len gs_len0 _) _) _) _) _) _)) (eok_var 0))
 (sok_seq (sok_set 8 (eok_fn (aok_cons (eok_var 1) (aok_cons (eok_tup (aok_cons (eok_var 2) (aok_cons (eok_var 4) aok_nil))) aok_nil)) (an_cons (an_cons an_nil))))
 (sok_seq (sok_set 9 (eok_fn (aok_cons (eok_var 1) (aok_cons (eok_tup (aok_cons (eok_var 3) (aok_cons (eok_var 5) aok_nil))) aok_nil)) (an_cons (an_cons an_nil))))
 (sok_seq (sok_set 10 (eok_fn (aok_cons (eok_var 1) (aok_cons (eok_tup (aok_cons (eok_var 6) (aok_cons (eok_var 7) aok_nil))) aok_nil)) (an_cons (an_cons an_nil))))
 (sok_ret (eok_tup (aok_cons (eok_op r2_ix (eok_var 8) (eok_int 0)) (aok_cons (eok_op r2_ix (eok_var 9) (eok_int 0)) (aok_cons (eok_op r2_ix (eok_var 8) (eok_int 1)) (aok_cons (eok_op r2_ix (eok_var 9) (eok_int 1)) (aok_cons (eok_op r2_ix (eok_var 10) (eok_int 0)) (aok_cons (eok_op r2_ix (eok_var 10) (eok_int 1)) aok_nil))))))))))))
end
section
variable {P : Program} {w : World} {K : PySem.W.Frag} {mg : Str → Option Value} {base : Heap}
theorem ok_undoing (T : Top P K mg) : FnG P w K mg base 2 T.a_undoing T.fd_undoing ["move"] (spD K 1 f_undoing) := by
  unfold f_undoing b_undoing
  refine fnG_data T.F_undoing sc_undoing rfl rfl fun cdv A outer s H hr hG => ?_
  refine ⟨_, (pss_cons (ps_asg (pv 0) (pg_tup rfl (pgs_cons (pg_name (i := 1) sc_undoing.nd rfl (Or.inl rfl)) (pgs_cons (pg_name (i := 2) sc_undoing.nd rfl (Or.inl rfl)) (pgs_cons (pg_name (i := 3) sc_undoing.nd rfl (Or.inl rfl)) (pgs_cons (pg_name (i := 4) sc_undoing.nd rfl (Or.inl rfl)) (pgs_cons (pg_name (i := 5) sc_undoing.nd rfl (Or.inl rfl)) (pgs_cons (pg_name (i := 6) sc_undoing.nd rfl (Or.inl rfl)) pgs_nil))))))))
 (pss_cons (ps_set (i := 7) sc_undoing.nd rfl (Or.inl rfl) (pe_callG (ok_strength T) (hr.mono (by omega)) hG (by rfl) T.g_strength T.F_strength.kp T.B_strength (pa_cons (pv 0) pa_nil)))
 (pss_cons (ps_set (i := 8) sc_undoing.nd rfl (Or.inl rfl) (pe_tup (pa_cons (pe_op op_mulW (pv 7) (pv 4)) (pa_cons (pe_op op_mulW (pe_un un_neg (pv 7)) (pv 2)) (pa_cons (pe_op op_mulW (pe_un un_neg (pv 7)) (pv 3)) (pa_cons (pe_op op_mulW (pv 7) (pv 1)) (pa_cons pe_int (pa_cons pe_int pa_nil))))))))
 (pss_cons (ps_set (i := 9) sc_undoing.nd rfl (Or.inl rfl) (pe_callG (ok_sent_vector T) (hr.mono (by omega)) hG (by rfl) T.g_sent_vector T.F_sent_vector.kp T.B_sent_vector (pa_cons (pv 8) (pa_cons (pe_tup (pa_cons (pv 5) (pa_cons (pv 6) pa_nil))) pa_nil))))
 (pss_one (ps_ret (pe_tup (pa_cons (pe_ix ix_seq (pv 8) pe_int (fun _ _ => rfl)) (pa_cons (pe_ix ix_seq (pv 8) pe_int (fun _ _ => rfl)) (pa_cons (pe_ix ix_seq (pv 8) pe_int (fun _ _ => rfl)) (pa_cons (pe_ix ix_seq (pv 8) pe_int (fun _ _ => rfl)) (pa_cons (pe_un un_neg (pe_ix ix_seq (pv 9) pe_int (fun _ _ => rfl))) (pa_cons (pe_un un_neg (pe_ix ix_seq (pv 9) pe_int (fun _ _ => rfl))) pa_nil))))))))))))), ?_⟩
  exact (sok_seq (sok_unp (gok_tup (gsok_cons (gok_name 1) (gsok_cons (gok_name 2) (gsok_cons (gok_name 3) (gsok_cons (gok_name 4) (gsok_cons (gok_name 5) (gsok_cons (gok_name 6) gsok_nil)))))) (gs_len (gs_len (gs_len (gs_len (gs_len (gs_len gs_len0 _) _) _) _) _) _)) (eok_var 0))
 (sok_seq (sok_set 7 (eok_fn (aok_cons (eok_var 0) aok_nil) (an_cons an_nil)))
 (sok_seq (sok_set 8 (eok_tup (aok_cons (eok_op r2_mulI (eok_var 7) (eok_var 4)) (aok_cons (eok_op r2_mulI (eok_un r1_neg (eok_var 7)) (eok_var 2)) (aok_cons (eok_op r2_mulI (eok_un r1_neg (eok_var 7)) (eok_var 3)) (aok_cons (eok_op r2_mulI (eok_var 7) (eok_var 1)) (aok_cons (eok_int 0) (aok_cons (eok_int 0) aok_nil))))))))
 (sok_seq (sok_set 9 (eok_fn (aok_cons (eok_var 8) (aok_cons (eok_tup (aok_cons (eok_var 5) (aok_cons (eok_var 6) aok_nil))) aok_nil)) (an_cons (an_cons an_nil))))
 (sok_ret (eok_tup (aok_cons (eok_op r2_ix (eok_var 8) (eok_int 0)) (aok_cons (eok_op r2_ix (eok_var 8) (eok_int 1)) (aok_cons (eok_op r2_ix (eok_var 8) (eok_int 2)) (aok_cons (eok_op r2_ix (eok_var 8) (eok_int 3)) (aok_cons (eok_un r1_neg (eok_op r2_ix (eok_var 9) (eok_int 0))) (aok_cons (eok_un r1_neg (eok_op r2_ix (eok_var 9) (eok_int 1))) aok_nil))))))))))))
end
section
variable {P : Program} {w : World} {K : PySem.W.Frag} {mg : Str → Option Value} {base : Heap}
theorem ok_nearest (T : Top P K mg) : FnG P w K mg base 1 T.a_nearest T.fd_nearest ["first", "second"] (spD K 2 f_nearest) := by
  unfold f_nearest b_nearest
  refine fnG_data T.F_nearest sc_nearest rfl rfl fun cdv A outer s H hr hG => ?_
  refine ⟨_, (pss_cons (ps_if (pt_cmpR op_lt (pv 1) pe_int (nomark _))
  (pss_cons (ps_set (i := 0) sc_nearest.nd rfl (Or.inl rfl) (pe_un un_neg (pv 0)))
 (pss_one (ps_set (i := 1) sc_nearest.nd rfl (Or.inl rfl) (pe_un un_neg (pv 1)))))
  pss_nil)
 (pss_one (ps_ret (pe_op op_fdivA (pe_op op_add4 (pe_op op_mulW pe_int (pv 0)) (pv 1)) (pe_op op_mulW pe_int (pv 1)))))), ?_⟩
  exact (sok_seq (sok_if (tok_test (eok_op r2_lt (eok_var 1) (eok_int 0)))
  (sok_seq (sok_set 0 (eok_un r1_neg (eok_var 0)))
 (sok_set 1 (eok_un r1_neg (eok_var 1))))
  sok_pass)
 (sok_ret (eok_op r2_fdiv (eok_op r2_add (eok_op r2_mulI (eok_int 2) (eok_var 0)) (eok_var 1)) (eok_op r2_mulI (eok_int 2) (eok_var 1)))))
end
section
variable {P : Program} {w : World} {K : PySem.W.Frag} {mg : Str → Option Value} {base : Heap}
theorem ok_form_of (T : Top P K mg) : FnG P w K mg base 1 T.a_form_of T.fd_form_of ["group"] (spD K 1 f_form_of) := by
  unfold f_form_of b_form_of
  refine fnG_data T.F_form_of sc_form_of rfl rfl fun cdv A outer s H hr hG => ?_
  refine ⟨_, (pss_cons (ps_set (i := 1) sc_form_of.nd rfl (Or.inl rfl) (pe_callB (L2.cr_sum rfl) (by rfl) T.z_sum bt_sum (pa_cons (pe_lc (own := [("move", 4)]) (g := (gName 4)) (tt := tYes) (te := (tOp (rAdd4 K) (tOp rMulI (tOp (rIx K) (tVar 4) (tC (.int 0))) (tOp (rIx K) (tVar 4) (tC (.int 0)))) (tOp rMulI (tOp (rIx K) (tVar 4) (tC (.int 2))) (tOp (rIx K) (tVar 4) (tC (.int 2)))))) rfl sc_form_of.nd (pi_seq (pv 0)) (blkOk_by (own := [("move", 4)]) (N := N_form_of) (sc := defScope s_form_of) (by decide +kernel)) (fun _ _ _ _ _ => by exact (pg_name (i := 4) sc_form_of.nd rfl (Or.inl rfl))) (fun _ _ _ _ _ => by exact pts_nil) (fun _ _ _ _ _ => by exact (pe_op op_add4 (pe_op op_mulW (pe_ix ix_seq (pv 4) pe_int (fun _ _ => rfl)) (pe_ix ix_seq (pv 4) pe_int (fun _ _ => rfl))) (pe_op op_mulW (pe_ix ix_seq (pv 4) pe_int (fun _ _ => rfl)) (pe_ix ix_seq (pv 4) pe_int (fun _ _ => rfl)))))) pa_nil)))
 (pss_cons (ps_set (i := 2) sc_form_of.nd rfl (Or.inl rfl) (pe_callB (L2.cr_sum rfl) (by rfl) T.z_sum bt_sum (pa_cons (pe_lc (own := [("move", 4)]) (g := (gName 4)) (tt := tYes) (te := (tOp (rAdd4 K) (tOp rMulI (tOp (rIx K) (tVar 4) (tC (.int 0))) (tOp (rIx K) (tVar 4) (tC (.int 1)))) (tOp rMulI (tOp (rIx K) (tVar 4) (tC (.int 2))) (tOp (rIx K) (tVar 4) (tC (.int 3)))))) rfl sc_form_of.nd (pi_seq (pv 0)) (blkOk_by (own := [("move", 4)]) (N := N_form_of) (sc := defScope s_form_of) (by decide +kernel)) (fun _ _ _ _ _ => by exact (pg_name (i := 4) sc_form_of.nd rfl (Or.inl rfl))) (fun _ _ _ _ _ => by exact pts_nil) (fun _ _ _ _ _ => by exact (pe_op op_add4 (pe_op op_mulW (pe_ix ix_seq (pv 4) pe_int (fun _ _ => rfl)) (pe_ix ix_seq (pv 4) pe_int (fun _ _ => rfl))) (pe_op op_mulW (pe_ix ix_seq (pv 4) pe_int (fun _ _ => rfl)) (pe_ix ix_seq (pv 4) pe_int (fun _ _ => rfl)))))) pa_nil)))
 (pss_cons (ps_set (i := 3) sc_form_of.nd rfl (Or.inl rfl) (pe_callB (L2.cr_sum rfl) (by rfl) T.z_sum bt_sum (pa_cons (pe_lc (own := [("move", 4)]) (g := (gName 4)) (tt := tYes) (te := (tOp (rAdd4 K) (tOp rMulI (tOp (rIx K) (tVar 4) (tC (.int 1))) (tOp (rIx K) (tVar 4) (tC (.int 1)))) (tOp rMulI (tOp (rIx K) (tVar 4) (tC (.int 3))) (tOp (rIx K) (tVar 4) (tC (.int 3)))))) rfl sc_form_of.nd (pi_seq (pv 0)) (blkOk_by (own := [("move", 4)]) (N := N_form_of) (sc := defScope s_form_of) (by decide +kernel)) (fun _ _ _ _ _ => by exact (pg_name (i := 4) sc_form_of.nd rfl (Or.inl rfl))) (fun _ _ _ _ _ => by exact pts_nil) (fun _ _ _ _ _ => by exact (pe_op op_add4 (pe_op op_mulW (pe_ix ix_seq (pv 4) pe_int (fun _ _ => rfl)) (pe_ix ix_seq (pv 4) pe_int (fun _ _ => rfl))) (pe_op op_mulW (pe_ix ix_seq (pv 4) pe_int (fun _ _ => rfl)) (pe_ix ix_seq (pv 4) pe_int (fun _ _ => rfl)))))) pa_nil)))
 (pss_one (ps_ret (pe_tup (pa_cons (pv 1) (pa_cons (pv 2) (pa_cons (pv 3) pa_nil))))))))), ?_⟩
  exact (sok_seq (sok_set 1 (eok_callB cr_sumA (aok_cons (eok_lc (iok_seq (eok_var 0)) (gok_name 4) tok_yes (eok_op r2_add (eok_op r2_mulI (eok_op r2_ix (eok_var 4) (eok_int 0)) (eok_op r2_ix (eok_var 4) (eok_int 0))) (eok_op r2_mulI (eok_op r2_ix (eok_var 4) (eok_int 2)) (eok_op r2_ix (eok_var 4) (eok_int 2)))) (by decide)) aok_nil)))
 (sok_seq (sok_set 2 (eok_callB cr_sumA (aok_cons (eok_lc (iok_seq (eok_var 0)) (gok_name 4) tok_yes (eok_op r2_add (eok_op r2_mulI (eok_op r2_ix (eok_var 4) (eok_int 0)) (eok_op r2_ix (eok_var 4) (eok_int 1))) (eok_op r2_mulI (eok_op r2_ix (eok_var 4) (eok_int 2)) (eok_op r2_ix (eok_var 4) (eok_int 3)))) (by decide)) aok_nil)))
 (sok_seq (sok_set 3 (eok_callB cr_sumA (aok_cons (eok_lc (iok_seq (eok_var 0)) (gok_name 4) tok_yes (eok_op r2_add (eok_op r2_mulI (eok_op r2_ix (eok_var 4) (eok_int 1)) (eok_op r2_ix (eok_var 4) (eok_int 1))) (eok_op r2_mulI (eok_op r2_ix (eok_var 4) (eok_int 3)) (eok_op r2_ix (eok_var 4) (eok_int 3)))) (by decide)) aok_nil)))
 (sok_ret (eok_tup (aok_cons (eok_var 1) (aok_cons (eok_var 2) (aok_cons (eok_var 3) aok_nil))))))))
end
section
variable {P : Program} {w : World} {K : PySem.W.Frag} {mg : Str → Option Value} {base : Heap}
theorem ok_mixed_value (T : Top P K mg) : FnG P w K mg base 1 T.a_mixed_value T.fd_mixed_value ["form", "first", "second"] (spD K 3 f_mixed_value) := by
  unfold f_mixed_value b_mixed_value
  refine fnG_data T.F_mixed_value sc_mixed_value rfl rfl fun cdv A outer s H hr hG => ?_
  refine ⟨_, (pss_cons (ps_set (i := 3) sc_mixed_value.nd rfl (Or.inl rfl) (pe_op op_add4 (pe_op op_mulW (pe_ix ix_seq (pv 1) pe_int (fun _ _ => rfl)) (pe_ix ix_seq (pv 2) pe_int (fun _ _ => rfl))) (pe_op op_mulW (pe_ix ix_seq (pv 1) pe_int (fun _ _ => rfl)) (pe_ix ix_seq (pv 2) pe_int (fun _ _ => rfl)))))
 (pss_one (ps_ret (pe_op op_add4 (pe_op op_add4 (pe_op op_mulW (pe_op op_mulW (pe_ix ix_seq (pv 0) pe_int (fun _ _ => rfl)) (pe_ix ix_seq (pv 1) pe_int (fun _ _ => rfl))) (pe_ix ix_seq (pv 2) pe_int (fun _ _ => rfl))) (pe_op op_mulW (pe_ix ix_seq (pv 0) pe_int (fun _ _ => rfl)) (pv 3))) (pe_op op_mulW (pe_op op_mulW (pe_ix ix_seq (pv 0) pe_int (fun _ _ => rfl)) (pe_ix ix_seq (pv 1) pe_int (fun _ _ => rfl))) (pe_ix ix_seq (pv 2) pe_int (fun _ _ => rfl))))))), ?_⟩
  exact (sok_seq (sok_set 3 (eok_op r2_add (eok_op r2_mulI (eok_op r2_ix (eok_var 1) (eok_int 0)) (eok_op r2_ix (eok_var 2) (eok_int 1))) (eok_op r2_mulI (eok_op r2_ix (eok_var 1) (eok_int 1)) (eok_op r2_ix (eok_var 2) (eok_int 0)))))
 (sok_ret (eok_op r2_add (eok_op r2_add (eok_op r2_mulI (eok_op r2_mulI (eok_op r2_ix (eok_var 0) (eok_int 0)) (eok_op r2_ix (eok_var 1) (eok_int 0))) (eok_op r2_ix (eok_var 2) (eok_int 0))) (eok_op r2_mulI (eok_op r2_ix (eok_var 0) (eok_int 1)) (eok_var 3))) (eok_op r2_mulI (eok_op r2_mulI (eok_op r2_ix (eok_var 0) (eok_int 2)) (eok_op r2_ix (eok_var 1) (eok_int 1))) (eok_op r2_ix (eok_var 2) (eok_int 1))))))
end
section
variable {P : Program} {w : World} {K : PySem.W.Frag} {mg : Str → Option Value} {base : Heap}
theorem ok_straightened (T : Top P K mg) : FnG P w K mg base 2 T.a_straightened T.fd_straightened ["form", "vector", "other"] (spD K 3 f_straightened) := by
  unfold f_straightened b_straightened
  refine fnG_data T.F_straightened sc_straightened rfl rfl fun cdv A outer s H hr hG => ?_
  refine ⟨_, (pss_cons (ps_set (i := 3) sc_straightened.nd rfl (Or.inl rfl) (pe_callG (ok_nearest T) (hr.mono (by omega)) hG (by rfl) T.g_nearest T.F_nearest.kp T.B_nearest (pa_cons (pe_callG (ok_mixed_value T) (hr.mono (by omega)) hG (by rfl) T.g_mixed_value T.F_mixed_value.kp T.B_mixed_value (pa_cons (pv 0) (pa_cons (pv 1) (pa_cons (pv 2) pa_nil)))) (pa_cons (pe_callG (ok_mixed_value T) (hr.mono (by omega)) hG (by rfl) T.g_mixed_value T.F_mixed_value.kp T.B_mixed_value (pa_cons (pv 0) (pa_cons (pv 2) (pa_cons (pv 2) pa_nil)))) pa_nil))))
 (pss_one (ps_ret (pe_callG (ok_from_to T) (hr.mono (by omega)) hG (by rfl) T.g_from_to T.F_from_to.kp T.B_from_to (pa_cons (pe_callG (ok_taken T) (hr.mono (by omega)) hG (by rfl) T.g_taken T.F_taken.kp T.B_taken (pa_cons (pv 2) (pa_cons (pv 3) pa_nil))) (pa_cons (pv 1) pa_nil)))))), ?_⟩
  exact (sok_seq (sok_set 3 (eok_fn (aok_cons (eok_fn (aok_cons (eok_var 0) (aok_cons (eok_var 1) (aok_cons (eok_var 2) aok_nil))) (an_cons (an_cons (an_cons an_nil)))) (aok_cons (eok_fn (aok_cons (eok_var 0) (aok_cons (eok_var 2) (aok_cons (eok_var 2) aok_nil))) (an_cons (an_cons (an_cons an_nil)))) aok_nil)) (an_cons (an_cons an_nil))))
 (sok_ret (eok_fn (aok_cons (eok_fn (aok_cons (eok_var 2) (aok_cons (eok_var 3) aok_nil)) (an_cons (an_cons an_nil))) (aok_cons (eok_var 1) aok_nil)) (an_cons (an_cons an_nil)))))
end
section
variable {P : Program} {w : World} {K : PySem.W.Frag} {mg : Str → Option Value} {base : Heap}
theorem ok_least_basis (T : Top P K mg) : FnG P w K mg base 3 T.a_least_basis T.fd_least_basis ["form"] (spD K 1 f_least_basis) := by
  unfold f_least_basis b_least_basis
  refine fnG_data T.F_least_basis sc_least_basis rfl rfl fun cdv A outer s H hr hG => ?_
  refine ⟨_, (pss_cons (ps_set (i := 1) sc_least_basis.nd rfl (Or.inl rfl) (pe_tup (pa_cons pe_int (pa_cons pe_int pa_nil))))
 (pss_cons (ps_set (i := 2) sc_least_basis.nd rfl (Or.inl rfl) (pe_callG (ok_straightened T) (hr.mono (by omega)) hG (by rfl) T.g_straightened T.F_straightened.kp T.B_straightened (pa_cons (pv 0) (pa_cons (pe_tup (pa_cons pe_int (pa_cons pe_int pa_nil))) (pa_cons (pv 1) pa_nil)))))
 (pss_cons (ps_while PassesOwn.never (pt_cmpR op_lt (pe_callG (ok_mixed_value T) (hr.mono (by omega)) hG (by rfl) T.g_mixed_value T.F_mixed_value.kp T.B_mixed_value (pa_cons (pv 0) (pa_cons (pv 2) (pa_cons (pv 2) pa_nil)))) (pe_callG (ok_mixed_value T) (hr.mono (by omega)) hG (by rfl) T.g_mixed_value T.F_mixed_value.kp T.B_mixed_value (pa_cons (pv 0) (pa_cons (pv 1) (pa_cons (pv 1) pa_nil)))) (nomark _))
  (pss_one (ps_par (i := 1) (j := 2) (by rfl) sc_least_basis.nd rfl rfl (by decide) rfl rfl (pa_cons (pv 2) (pa_cons (pe_callG (ok_straightened T) (hr.mono (by omega)) hG (by rfl) T.g_straightened T.F_straightened.kp T.B_straightened (pa_cons (pv 0) (pa_cons (pe_callG (ok_taken T) (hr.mono (by omega)) hG (by rfl) T.g_taken T.F_taken.kp T.B_taken (pa_cons (pv 1) (pa_cons (pe_un un_neg pe_int) pa_nil))) (pa_cons (pv 2) pa_nil)))) pa_nil)) (by rfl))))
 (pss_one (ps_ret (pe_tup (pa_cons (pv 1) (pa_cons (pv 2) pa_nil)))))))), ?_⟩
  exact (sok_seq (sok_set 1 (eok_tup (aok_cons (eok_int 1) (aok_cons (eok_int 0) aok_nil))))
 (sok_seq (sok_set 2 (eok_fn (aok_cons (eok_var 0) (aok_cons (eok_tup (aok_cons (eok_int 0) (aok_cons (eok_int 1) aok_nil))) (aok_cons (eok_var 1) aok_nil))) (an_cons (an_cons (an_cons an_nil)))))
 (sok_seq (sok_while (tok_test (eok_op r2_lt (eok_fn (aok_cons (eok_var 0) (aok_cons (eok_var 2) (aok_cons (eok_var 2) aok_nil))) (an_cons (an_cons (an_cons an_nil)))) (eok_fn (aok_cons (eok_var 0) (aok_cons (eok_var 1) (aok_cons (eok_var 1) aok_nil))) (an_cons (an_cons (an_cons an_nil))))))
  (sok_par 1 2 (aok_cons (eok_var 2) (aok_cons (eok_fn (aok_cons (eok_var 0) (aok_cons (eok_fn (aok_cons (eok_var 1) (aok_cons (eok_un r1_neg (eok_int 1)) aok_nil)) (an_cons (an_cons an_nil))) (aok_cons (eok_var 2) aok_nil))) (an_cons (an_cons (an_cons an_nil)))) aok_nil))))
 (sok_ret (eok_tup (aok_cons (eok_var 1) (aok_cons (eok_var 2) aok_nil)))))))
end
end Lk77
set_option maxRecDepth 100000
set_option maxHeartbeats 4000000
namespace Lk77
open PySem PySem.Spec PyProof.Rows L2 F3
section
variable {P : Program} {w : World} {K : PySem.W.Frag} {mg : Str → Option Value} {base : Heap}
theorem ok_settling (T : Top P K mg) : FnG P w K mg base 4 T.a_settling T.fd_settling ["form"] (spD K 1 f_settling) := by
  unfold f_settling b_settling
  refine fnG_data T.F_settling sc_settling rfl rfl fun cdv A outer s H hr hG => ?_
  refine ⟨_, (pss_cons (ps_asg (pe_callG (ok_least_basis T) (hr.mono (by omega)) hG (by rfl) T.g_least_basis T.F_least_basis.kp T.B_least_basis (pa_cons (pv 0) pa_nil)) (pg_tup rfl (pgs_cons (pg_name (i := 1) sc_settling.nd rfl (Or.inl rfl)) (pgs_cons (pg_name (i := 2) sc_settling.nd rfl (Or.inl rfl)) pgs_nil))))
 (pss_one (ps_ret (pe_callG (ok_undoing T) (hr.mono (by omega)) hG (by rfl) T.g_undoing T.F_undoing.kp T.B_undoing (pa_cons (pe_tup (pa_cons (pe_ix ix_seq (pv 1) pe_int (fun _ _ => rfl)) (pa_cons (pe_ix ix_seq (pv 2) pe_int (fun _ _ => rfl)) (pa_cons (pe_ix ix_seq (pv 1) pe_int (fun _ _ => rfl)) (pa_cons (pe_ix ix_seq (pv 2) pe_int (fun _ _ => rfl)) (pa_cons pe_int (pa_cons pe_int pa_nil))))))) pa_nil))))), ?_⟩
  exact (sok_seq (sok_unp (gok_tup (gsok_cons (gok_name 1) (gsok_cons (gok_name 2) gsok_nil)) (gs_len (gs_len gs_len0 _) _)) (eok_fn (aok_cons (eok_var 0) aok_nil) (an_cons an_nil)))
 (sok_ret (eok_fn (aok_cons (eok_tup (aok_cons (eok_op r2_ix (eok_var 1) (eok_int 0)) (aok_cons (eok_op r2_ix (eok_var 2) (eok_int 0)) (aok_cons (eok_op r2_ix (eok_var 1) (eok_int 1)) (aok_cons (eok_op r2_ix (eok_var 2) (eok_int 1)) (aok_cons (eok_int 0) (aok_cons (eok_int 0) aok_nil))))))) aok_nil) (an_cons an_nil))))
end
section
variable {P : Program} {w : World} {K : PySem.W.Frag} {mg : Str → Option Value} {base : Heap}
theorem ok_group_of (T : Top P K mg) : FnX P w K mg base 3 T.a_group_of T.fd_group_of ["moves"] (spX K (clT T) 1 f_group_of) := by
  unfold f_group_of b_group_of
  refine fnX_data T.F_group_of sc_group_of rfl rfl fun cdv A outer s H E hr hG => ?_
  refine ⟨_, (pss_cons (ps_set (i := 1) sc_group_of.nd rfl (Or.inl rfl) (pe_lst (pa_cons (pe_glob (v := .ref T.a_REST) (by rfl) T.g_REST rfl) pa_nil)))
 (pss_cons (ps_set (i := 2) sc_group_of.nd rfl (Or.inl rfl) pe_int)
 (pss_cons (ps_while (passes_of rfl) (PW.pt (pw_and (pt_cmpR op_lt (pv 2) (pe_callB call_lenA (by rfl) T.z_len bt_len (pa_cons (pv 1) pa_nil)) (nomark _)) (pw_and1 (pt_cmpR op_le (pe_callB call_lenA (by rfl) T.z_len bt_len (pa_cons (pv 1) pa_nil)) (pe_glob (v := .int 12) (by rfl) T.g_MOST ⟨_, rfl⟩) (nomark _)))))
  (pss_cons (ps_for (passes_of rfl) rfl (pi_seq (pv 0)) (pg_name (i := 3) sc_group_of.nd rfl (Or.inl rfl))
  (pss_cons (ps_set (i := 4) sc_group_of.nd rfl (Or.inl rfl) (pe_callG (ok_after T) (hr.mono (by omega)) hG (by rfl) T.g_after T.F_after.kp T.B_after (pa_cons (pe_ix ix_seq (pv 1) (pv 2) (fun _ _ => rfl)) (pa_cons (pv 3) pa_nil))))
 (pss_one (ps_if (pt_cmpR (op_notInA (ru65 hr)) (pv 4) (pv 1) (by rfl))
  (pss_one (ps_expr (pe_bm PySem.F.plainAttrs_list PySem.F.slot_list_append PySem.F.type_list_append mt_append (pv 1) (pa_cons (pv 4) pa_nil))))
  pss_nil))))
 (pss_one (ps_set (i := 2) sc_group_of.nd rfl (Or.inl rfl) (pe_op op_add4 (pv 2) pe_int)))))
 (pss_cons (ps_if (pt_cmpR op_gt (pe_callB call_lenA (by rfl) T.z_len bt_len (pa_cons (pv 1) pa_nil)) (pe_glob (v := .int 12) (by rfl) T.g_MOST ⟨_, rfl⟩) (nomark _))
  (pss_one (ps_raise0 rfl (L2N.takes_of rfl rfl rfl rfl) T.X_EndlessGroup hr T.g_EndlessGroup T.z_super))
  pss_nil)
 (pss_one (ps_ret (pe_callB (call_sortD (ru66 hr)) (by rfl) T.z_sorted bt_sorted (pa_cons (pv 1) pa_nil)))))))), ?_⟩
  exact (sok_seq (sok_set 1 (eok_lst (aok_cons (eok_const T.d_REST) aok_nil)))
 (sok_seq (sok_set 2 (eok_int 0))
 (sok_seq (sok_fo [2, 3, 4] (sok_pre [3, 4] (sok_while (tok_and (tok_test (eok_op r2_lt (eok_var 2) (eok_callB F3.cr_len (aok_cons (eok_var 1) aok_nil)))) (tok_test (eok_op r2_le (eok_callB F3.cr_len (aok_cons (eok_var 1) aok_nil)) (eok_int 12))))
  (sok_fo [3, 4] (sok_seq (sok_fo [3, 4] (sok_pre [3, 4] (sok_for (iok_seq (eok_var 0)) (gok_name 3)
  (sok_fo [3, 4] (sok_seq (sok_set 4 (eok_fn (aok_cons (eok_op r2_ix (eok_var 1) (eok_var 2)) (aok_cons (eok_var 3) aok_nil)) (an_cons (an_cons an_nil))))
 (sok_if (tok_test (eok_op (r2_in true) (eok_var 4) (eok_var 1)))
  (sok_app 1 (eok_var 4))
  sok_pass))))))
 (sok_set 2 (eok_op r2_add (eok_var 2) (eok_int 1))))))))
 (sok_seq (sok_if (tok_test (eok_op r2_gt (eok_callB F3.cr_len (aok_cons (eok_var 1) aok_nil)) (eok_int 12)))
  (sok_raiseD "EndlessGroup" (clT_EndlessGroup T))
  sok_pass)
 (sok_ret (eok_callB cr_sortD (aok_cons (eok_var 1) aok_nil)))))))
end
section
variable {P : Program} {w : World} {K : PySem.W.Frag} {mg : Str → Option Value} {base : Heap}
theorem ok_keeps_square (T : Top P K mg) : FnG P w K mg base 1 T.a_keeps_square T.fd_keeps_square ["move"] (spD K 1 f_keeps_square) := by
  unfold f_keeps_square b_keeps_square
  refine fnG_data T.F_keeps_square sc_keeps_square rfl rfl fun cdv A outer s H hr hG => ?_
  refine ⟨_, (pss_one (ps_ret (pe_and (pe_cmpR (op_eqA hr.units) (pe_op op_add4 (pe_callB call_abs (by rfl) T.z_abs bt_abs (pa_cons (pe_ix ix_seq (pv 0) pe_int (fun _ _ => rfl)) pa_nil)) (pe_callB call_abs (by rfl) T.z_abs bt_abs (pa_cons (pe_ix ix_seq (pv 0) pe_int (fun _ _ => rfl)) pa_nil))) pe_int (nomark _)) (pe_one (pe_cmpR (op_eqA hr.units) (pe_op op_add4 (pe_callB call_abs (by rfl) T.z_abs bt_abs (pa_cons (pe_ix ix_seq (pv 0) pe_int (fun _ _ => rfl)) pa_nil)) (pe_callB call_abs (by rfl) T.z_abs bt_abs (pa_cons (pe_ix ix_seq (pv 0) pe_int (fun _ _ => rfl)) pa_nil))) pe_int (nomark _)))))), ?_⟩
  exact (sok_ret (eok_and (eok_op r2_eq (eok_op r2_add (eok_callB F3.cr_abs (aok_cons (eok_op r2_ix (eok_var 0) (eok_int 0)) aok_nil)) (eok_callB F3.cr_abs (aok_cons (eok_op r2_ix (eok_var 0) (eok_int 1)) aok_nil))) (eok_int 1)) (eok_op r2_eq (eok_op r2_add (eok_callB F3.cr_abs (aok_cons (eok_op r2_ix (eok_var 0) (eok_int 2)) aok_nil)) (eok_callB F3.cr_abs (aok_cons (eok_op r2_ix (eok_var 0) (eok_int 3)) aok_nil))) (eok_int 1))))
end
section
variable {P : Program} {w : World} {K : PySem.W.Frag} {mg : Str → Option Value} {base : Heap}
theorem ok_keeps_hexagon (T : Top P K mg) : FnG P w K mg base 1 T.a_keeps_hexagon T.fd_keeps_hexagon ["move"] (spD K 1 f_keeps_hexagon) := by
  unfold f_keeps_hexagon b_keeps_hexagon
  refine fnG_data T.F_keeps_hexagon sc_keeps_hexagon rfl rfl fun cdv A outer s H hr hG => ?_
  refine ⟨_, (pss_cons (ps_asg (pe_slice sl_2 (pv 0) po_none (po_some pe_int)) (pg_tup rfl (pgs_cons (pg_name (i := 1) sc_keeps_hexagon.nd rfl (Or.inl rfl)) (pgs_cons (pg_name (i := 2) sc_keeps_hexagon.nd rfl (Or.inl rfl)) (pgs_cons (pg_name (i := 3) sc_keeps_hexagon.nd rfl (Or.inl rfl)) (pgs_cons (pg_name (i := 4) sc_keeps_hexagon.nd rfl (Or.inl rfl)) pgs_nil))))))
 (pss_one (ps_ret (pe_and (pe_cmpR (op_inA (ru65 hr)) (pe_tup (pa_cons (pv 1) (pa_cons (pv 3) pa_nil))) (pe_glob (v := .ref T.a_HEXAGON) (by rfl) T.g_HEXAGON rfl) (by rfl)) (pe_and (pe_cmpR (op_inA (ru65 hr)) (pe_tup (pa_cons (pv 2) (pa_cons (pv 4) pa_nil))) (pe_glob (v := .ref T.a_HEXAGON) (by rfl) T.g_HEXAGON rfl) (by rfl)) (pe_one (pe_cmpR (op_inA (ru65 hr)) (pe_tup (pa_cons (pe_op op_add4 (pv 1) (pv 2)) (pa_cons (pe_op op_add4 (pv 3) (pv 4)) pa_nil))) (pe_glob (v := .ref T.a_HEXAGON) (by rfl) T.g_HEXAGON rfl) (by rfl)))))))), ?_⟩
  exact (sok_seq (sok_unp (gok_tup (gsok_cons (gok_name 1) (gsok_cons (gok_name 2) (gsok_cons (gok_name 3) (gsok_cons (gok_name 4) gsok_nil)))) (gs_len (gs_len (gs_len (gs_len gs_len0 _) _) _) _)) (eok_sl (eok_var 0) ook_no (ook_is (eok_int 4))))
 (sok_ret (eok_and (eok_op (r2_in false) (eok_tup (aok_cons (eok_var 1) (aok_cons (eok_var 3) aok_nil))) (eok_const T.d_HEXAGON)) (eok_and (eok_op (r2_in false) (eok_tup (aok_cons (eok_var 2) (aok_cons (eok_var 4) aok_nil))) (eok_const T.d_HEXAGON)) (eok_op (r2_in false) (eok_tup (aok_cons (eok_op r2_add (eok_var 1) (eok_var 2)) (aok_cons (eok_op r2_add (eok_var 3) (eok_var 4)) aok_nil))) (eok_const T.d_HEXAGON))))))
end
section
variable {P : Program} {w : World} {K : PySem.W.Frag} {mg : Str → Option Value} {base : Heap}
theorem ok_made_by (T : Top P K mg) : FnG P w K mg base 3 T.a_made_by T.fd_made_by ["group", "move"] (spD K 2 f_made_by) := by
  unfold f_made_by b_made_by
  refine fnG_data T.F_made_by sc_made_by rfl rfl fun cdv A outer s H hr hG => ?_
  refine ⟨_, (pss_one (ps_ret (pe_lc (own := [("item", 2)]) (g := (gName 2)) (tt := tYes) (te := (tCallD (spD K 2 f_after) (tCons (tCallD (spD K 2 f_after) (tCons (tCallD (spD K 1 f_undoing) (tCons (tVar 1) tNil)) (tCons (tVar 2) tNil))) (tCons (tVar 1) tNil)))) rfl sc_made_by.nd (pi_seq (pv 0)) (blkOk_by (own := [("item", 2)]) (N := N_made_by) (sc := defScope s_made_by) (by decide +kernel)) (fun _ _ _ _ _ => by exact (pg_name (i := 2) sc_made_by.nd rfl (Or.inl rfl))) (fun _ _ _ _ _ => by exact pts_nil) (fun _ _ _ _ _ => by exact (pe_callG (ok_after T) (hr.mono (by omega)) hG (by rfl) T.g_after T.F_after.kp T.B_after (pa_cons (pe_callG (ok_after T) (hr.mono (by omega)) hG (by rfl) T.g_after T.F_after.kp T.B_after (pa_cons (pe_callG (ok_undoing T) (hr.mono (by omega)) hG (by rfl) T.g_undoing T.F_undoing.kp T.B_undoing (pa_cons (pv 1) pa_nil)) (pa_cons (pv 2) pa_nil))) (pa_cons (pv 1) pa_nil))))))), ?_⟩
  exact (sok_ret (eok_lc (iok_seq (eok_var 0)) (gok_name 2) tok_yes (eok_fn (aok_cons (eok_fn (aok_cons (eok_fn (aok_cons (eok_var 1) aok_nil) (an_cons an_nil)) (aok_cons (eok_var 2) aok_nil)) (an_cons (an_cons an_nil))) (aok_cons (eok_var 1) aok_nil)) (an_cons (an_cons an_nil))) (by decide)))
end
section
variable {P : Program} {w : World} {K : PySem.W.Frag} {mg : Str → Option Value} {base : Heap}
theorem ok_shows_standard (T : Top P K mg) : FnG P w K mg base 4 T.a_shows_standard T.fd_shows_standard ["group", "kind", "move"] (spD K 3 f_shows_standard) := by
  unfold f_shows_standard b_shows_standard
  refine fnG_data T.F_shows_standard sc_shows_standard rfl rfl fun cdv A outer s H hr hG => ?_
  refine ⟨_, (pss_cons (ps_if (PW.pt (pw_or (pt_not (pt_val (pe_callB call_isi (by rfl) T.z_isinstance bt_isinstance (pa_cons (pv 1) (pa_cons (pe_bltn (v := .ty "str") (by rfl) T.z_str bt_str rfl) pa_nil))))) (pw_or1 (pt_cmpR (op_notInA (ru65 hr)) (pv 1) (pe_tup (pa_cons pe_str (pa_cons pe_str pa_nil))) (by rfl)))))
  (pss_one (ps_ret pe_bl))
  pss_nil)
 (pss_cons (ps_if (PW.pt (pw_or (pt_not (pt_val (pe_callG (ok_is_move T) (hr.mono (by omega)) hG (by rfl) T.g_is_move T.F_is_move.kp T.B_is_move (pa_cons (pv 2) pa_nil)))) (pw_or (pt_not (pt_val (pe_callG (ok_is_plain T) (hr.mono (by omega)) hG (by rfl) T.g_is_plain T.F_is_plain.kp T.B_is_plain (pa_cons (pv 2) pa_nil)))) (pw_or1 (pt_cmpR (op_neA hr.units) (pe_callG (ok_strength T) (hr.mono (by omega)) hG (by rfl) T.g_strength T.F_strength.kp T.B_strength (pa_cons (pv 2) pa_nil)) pe_int (nomark _))))))
  (pss_one (ps_ret pe_bl))
  pss_nil)
 (pss_cons (ps_for PassesOwn.never rfl (pi_seq (pe_callG (ok_made_by T) (hr.mono (by omega)) hG (by rfl) T.g_made_by T.F_made_by.kp T.B_made_by (pa_cons (pv 0) (pa_cons (pv 2) pa_nil)))) (pg_name (i := 3) sc_shows_standard.nd rfl (Or.inl rfl))
  (pss_cons (ps_if (PW.pt (pw_and (pt_cmpR (op_eqA hr.units) (pv 1) pe_str (nomark _)) (pw_and1 (pt_not (pt_val (pe_callG (ok_keeps_square T) (hr.mono (by omega)) hG (by rfl) T.g_keeps_square T.F_keeps_square.kp T.B_keeps_square (pa_cons (pv 3) pa_nil)))))))
  (pss_one (ps_ret pe_bl))
  pss_nil)
 (pss_one (ps_if (PW.pt (pw_and (pt_cmpR (op_eqA hr.units) (pv 1) pe_str (nomark _)) (pw_and1 (pt_not (pt_val (pe_callG (ok_keeps_hexagon T) (hr.mono (by omega)) hG (by rfl) T.g_keeps_hexagon T.F_keeps_hexagon.kp T.B_keeps_hexagon (pa_cons (pv 3) pa_nil)))))))
  (pss_one (ps_ret pe_bl))
  pss_nil))))
 (pss_one (ps_ret pe_bl))))), ?_⟩
  exact (sok_seq (sok_if (tok_or (tok_not (tok_val (eok_isi .str (eok_var 1)))) (tok_test (eok_op (r2_in true) (eok_var 1) (eok_tup (aok_cons (eok_str "square") (aok_cons (eok_str "hexagon") aok_nil))))))
  (sok_ret (eok_bool false))
  sok_pass)
 (sok_seq (sok_if (tok_or (tok_not (tok_val (eok_fn (aok_cons (eok_var 2) aok_nil) (an_cons an_nil)))) (tok_or (tok_not (tok_val (eok_fn (aok_cons (eok_var 2) aok_nil) (an_cons an_nil)))) (tok_test (eok_op r2_ne (eok_fn (aok_cons (eok_var 2) aok_nil) (an_cons an_nil)) (eok_int 1)))))
  (sok_ret (eok_bool false))
  sok_pass)
 (sok_seq (sok_fo [3] (sok_pre [3] (sok_for (iok_seq (eok_fn (aok_cons (eok_var 0) (aok_cons (eok_var 2) aok_nil)) (an_cons (an_cons an_nil)))) (gok_name 3)
  (sok_fo [3] (sok_seq (sok_if (tok_and (tok_test (eok_op r2_eq (eok_var 1) (eok_str "square"))) (tok_not (tok_val (eok_fn (aok_cons (eok_var 3) aok_nil) (an_cons an_nil)))))
  (sok_ret (eok_bool false))
  sok_pass)
 (sok_if (tok_and (tok_test (eok_op r2_eq (eok_var 1) (eok_str "hexagon"))) (tok_not (tok_val (eok_fn (aok_cons (eok_var 3) aok_nil) (an_cons an_nil)))))
  (sok_ret (eok_bool false))
  sok_pass))))))
 (sok_ret (eok_bool true)))))
end
section
variable {P : Program} {w : World} {K : PySem.W.Frag} {mg : Str → Option Value} {base : Heap}
theorem ok_standard_group (T : Top P K mg) : FnG P w K mg base 5 T.a_standard_group T.fd_standard_group ["group"] (spD K 1 f_standard_group) := by
  unfold f_standard_group b_standard_group
  refine fnG_data T.F_standard_group sc_standard_group rfl rfl fun cdv A outer s H hr hG => ?_
  refine ⟨_, (pss_cons (ps_set (i := 1) sc_standard_group.nd rfl (Or.inr rfl) pe_str)
 (pss_cons (ps_if (pt_cmpR (op_eqA hr.units) (pe_op op_modN (pe_callB call_lenA (by rfl) T.z_len bt_len (pa_cons (pv 0) pa_nil)) pe_int) pe_int (nomark _))
  (pss_one (ps_set (i := 1) sc_standard_group.nd rfl (Or.inr rfl) pe_str))
  pss_nil)
 (pss_cons (ps_set (i := 2) sc_standard_group.nd rfl (Or.inr rfl) (pe_callG (ok_settling T) (hr.mono (by omega)) hG (by rfl) T.g_settling T.F_settling.kp T.B_settling (pa_cons (pe_callG (ok_form_of T) (hr.mono (by omega)) hG (by rfl) T.g_form_of T.F_form_of.kp T.B_form_of (pa_cons (pv 0) pa_nil)) pa_nil)))
 (pss_cons (ps_setLc (i := 3) (own := [("step", 4)]) (g := (gName 4)) (tt := (tB (tCallD (spD K 3 f_shows_standard) (tCons (tVar 0) (tCons (tVar 1) (tCons (tCallD (spD K 2 f_after) (tCons (tVar 2) (tCons (tVar 4) tNil))) tNil)))))) (te := (tCallD (spD K 2 f_after) (tCons (tVar 2) (tCons (tVar 4) tNil)))) rfl sc_standard_group.nd rfl rfl (sw_true rfl rfl rfl (by decide +kernel)) (pi_seq (pe_glob (v := .ref T.a_NEAR_MOVES) (by rfl) T.g_NEAR_MOVES rfl)) (blkOk_by (own := [("step", 4)]) (N := N_standard_group) (sc := defScope s_standard_group) (by decide +kernel)) (fun _ _ _ _ _ => by exact (pg_name (i := 4) sc_standard_group.nd rfl (Or.inl rfl))) (fun _ _ _ _ _ => by exact (pts_one (pt_val (pe_callG (ok_shows_standard T) (hr.mono (by omega)) hG (by rfl) T.g_shows_standard T.F_shows_standard.kp T.B_shows_standard (pa_cons (pv 0) (pa_cons (pv 1) (pa_cons (pe_callG (ok_after T) (hr.mono (by omega)) hG (by rfl) T.g_after T.F_after.kp T.B_after (pa_cons (pv 2) (pa_cons (pv 4) pa_nil))) pa_nil))))))) (fun _ _ _ _ _ => by exact (pe_callG (ok_after T) (hr.mono (by omega)) hG (by rfl) T.g_after T.F_after.kp T.B_after (pa_cons (pv 2) (pa_cons (pv 4) pa_nil)))))
 (pss_one (ps_ret (pe_tup (pa_cons (pv 1) (pa_cons (pe_ix ix_seq (pv 3) pe_int (fun _ _ => rfl)) pa_nil))))))))), ?_⟩
  exact (sok_seq (sok_set 1 (eok_str "square"))
 (sok_seq (sok_if (tok_test (eok_op r2_eq (eok_op r2_mod (eok_callB F3.cr_len (aok_cons (eok_var 0) aok_nil)) (eok_int 3)) (eok_int 0)))
  (sok_set 1 (eok_str "hexagon"))
  sok_pass)
 (sok_seq (sok_set 2 (eok_fn (aok_cons (eok_fn (aok_cons (eok_var 0) aok_nil) (an_cons an_nil)) aok_nil) (an_cons an_nil)))
 (sok_seq (sok_set 3 (eok_lc (iok_seq (eok_const T.d_NEAR_MOVES)) (gok_name 4) (tok_val (eok_fn (aok_cons (eok_var 0) (aok_cons (eok_var 1) (aok_cons (eok_fn (aok_cons (eok_var 2) (aok_cons (eok_var 4) aok_nil)) (an_cons (an_cons an_nil))) aok_nil))) (an_cons (an_cons (an_cons an_nil))))) (eok_fn (aok_cons (eok_var 2) (aok_cons (eok_var 4) aok_nil)) (an_cons (an_cons an_nil))) (by decide)))
 (sok_ret (eok_tup (aok_cons (eok_var 1) (aok_cons (eok_op r2_ix (eok_var 3) (eok_int 0)) aok_nil))))))))
end
section
variable {P : Program} {w : World} {K : PySem.W.Frag} {mg : Str → Option Value} {base : Heap}
theorem ok__law_draws (T : Top P K mg) : FnG P w K mg base 1 T.a__law_draws T.fd__law_draws ["script", "many"] (spD K 2 f__law_draws) := by
  unfold f__law_draws b__law_draws
  refine fnG_data T.F__law_draws sc__law_draws rfl rfl fun cdv A outer s H hr hG => ?_
  refine ⟨_, (pss_cons (ps_set (i := 2) sc__law_draws.nd rfl (Or.inl rfl) (pe_lst pa_nil))
 (pss_cons (ps_for PassesOwn.never rfl (pi_seq (pe_slice sl_2 (pv 0) po_none (po_some pe_int))) (pg_name (i := 3) sc__law_draws.nd rfl (Or.inl rfl))
  (pss_cons (ps_set (i := 4) sc__law_draws.nd rfl (Or.inl rfl) (pe_callB call_abs (by rfl) T.z_abs bt_abs (pa_cons (pe_callTy call_int1 (by rfl) T.z_int bt_int (pa_cons (pv 3) pa_nil)) pa_nil)))
 (pss_one (ps_if (pt_cmpR op_ge (pv 4) (pe_op op_pow pe_int pe_int) (nomark _))
  (pss_one (ps_for PassesOwn.never rfl (pi_range1 (by rfl) T.z_range (pa_cons pe_int pa_nil)) (pg_name (i := 5) sc__law_draws.nd rfl (Or.inl rfl))
  (pss_one (ps_if (pt_cmpR op_gt (pv 4) pe_int (nomark _))
  (pss_cons (ps_expr (pe_bm PySem.F.plainAttrs_list PySem.F.slot_list_append PySem.F.type_list_append mt_append (pv 2) (pa_cons (pe_op op_modN (pv 4) pe_int) pa_nil)))
 (pss_one (ps_set (i := 4) sc__law_draws.nd rfl (Or.inl rfl) (pe_op op_fdivA (pv 4) pe_int))))
  pss_nil))))
  (pss_cons (ps_set (i := 6) sc__law_draws.nd rfl (Or.inl rfl) (pe_op op_modN (pe_op op_add4 (pe_op op_add4 (pe_op op_mulW (pv 4) pe_int) (pe_op op_mulW pe_int (pe_callB call_lenA (by rfl) T.z_len bt_len (pa_cons (pv 2) pa_nil)))) pe_int) pe_int))
 (pss_one (ps_for PassesOwn.never rfl (pi_range1 (by rfl) T.z_range (pa_cons pe_int pa_nil)) (pg_name (i := 5) sc__law_draws.nd rfl (Or.inl rfl))
  (pss_cons (ps_set (i := 6) sc__law_draws.nd rfl (Or.inl rfl) (pe_op op_modN (pe_op op_add4 (pe_op op_add4 (pe_op op_add4 (pe_op op_mulW (pv 6) pe_int) (pe_op op_fdivA (pv 6) pe_int)) (pe_op op_mulW pe_int (pv 5))) pe_int) pe_int))
 (pss_one (ps_expr (pe_bm PySem.F.plainAttrs_list PySem.F.slot_list_append PySem.F.type_list_append mt_append (pv 2) (pa_cons (pe_op op_modN (pe_op op_fdivA (pv 6) pe_int) pe_int) pa_nil))))))))))))
 (pss_cons (ps_for PassesOwn.never rfl (pi_range1 (by rfl) T.z_range (pa_cons (pv 1) pa_nil)) (pg_name (i := 5) sc__law_draws.nd rfl (Or.inl rfl))
  (pss_one (ps_if (pt_cmpR op_lt (pe_callB call_lenA (by rfl) T.z_len bt_len (pa_cons (pv 2) pa_nil)) (pv 1) (nomark _))
  (pss_cons (ps_set (i := 7) sc__law_draws.nd rfl (Or.inl rfl) pe_int)
 (pss_cons (ps_if (pt_cmpR op_gt (pe_callB call_lenA (by rfl) T.z_len bt_len (pa_cons (pv 2) pa_nil)) pe_int (nomark _))
  (pss_one (ps_set (i := 7) sc__law_draws.nd rfl (Or.inl rfl) (pe_ix ix_seq (pv 2) (pe_op op_modN (pv 5) (pe_callB call_lenA (by rfl) T.z_len bt_len (pa_cons (pv 2) pa_nil))) (fun _ _ => rfl))))
  pss_nil)
 (pss_one (ps_expr (pe_bm PySem.F.plainAttrs_list PySem.F.slot_list_append PySem.F.type_list_append mt_append (pv 2) (pa_cons (pe_op op_modN (pe_op op_add4 (pe_op op_add4 (pe_op op_mulW (pv 7) pe_int) (pe_op op_mulW pe_int (pe_callB call_lenA (by rfl) T.z_len bt_len (pa_cons (pv 2) pa_nil)))) pe_int) pe_int) pa_nil))))))
  pss_nil)))
 (pss_one (ps_ret (pe_slice sl_2 (pv 2) po_none (po_some (pv 1)))))))), ?_⟩
  exact (sok_seq (sok_set 2 (eok_lst aok_nil))
 (sok_seq (sok_fo [3, 4, 5, 6] (sok_pre [3, 4, 5, 6] (sok_for (iok_seq (eok_sl (eok_var 0) ook_no (ook_is (eok_int 63)))) (gok_name 3)
  (sok_fo [3, 4, 5, 6] (sok_seq (sok_set 4 (eok_callB F3.cr_abs (aok_cons (eok_callB cr_int (aok_cons (eok_var 3) aok_nil)) aok_nil)))
 (sok_fo [4, 5, 6] (sok_if (tok_test (eok_op r2_ge (eok_var 4) (eok_op r2_pow (eok_int 10) (eok_int 18))))
  (sok_fo [4, 5] (sok_pre [5] (sok_for (iok_rng1 (aok_cons (eok_int 60) aok_nil)) (gok_name 5)
  (sok_fo [5] (sok_if (tok_test (eok_op r2_gt (eok_var 4) (eok_int 0)))
  (sok_seq (sok_app 2 (eok_op r2_mod (eok_var 4) (eok_int 1000003)))
 (sok_set 4 (eok_op r2_fdiv (eok_var 4) (eok_int 1000003))))
  sok_pass)))))
  (sok_seq (sok_set 6 (eok_op r2_mod (eok_op r2_add (eok_op r2_add (eok_op r2_mulI (eok_var 4) (eok_int 48271)) (eok_op r2_mulI (eok_int 7) (eok_callB F3.cr_len (aok_cons (eok_var 2) aok_nil)))) (eok_int 11)) (eok_int 2147483647)))
 (sok_fo [5, 6] (sok_pre [5] (sok_for (iok_rng1 (aok_cons (eok_int 4) aok_nil)) (gok_name 5)
  (sok_fo [5] (sok_seq (sok_set 6 (eok_op r2_mod (eok_op r2_add (eok_op r2_add (eok_op r2_add (eok_op r2_mulI (eok_var 6) (eok_int 69621)) (eok_op r2_fdiv (eok_var 6) (eok_int 65536))) (eok_op r2_mulI (eok_int 13) (eok_var 5))) (eok_int 5)) (eok_int 2147483629)))
 (sok_app 2 (eok_op r2_mod (eok_op r2_fdiv (eok_var 6) (eok_int 8)) (eok_int 1000003))))))))))))))))
 (sok_seq (sok_fo [5, 7] (sok_pre [5, 7] (sok_for (iok_rng1 (aok_cons (eok_var 1) aok_nil)) (gok_name 5)
  (sok_fo [5, 7] (sok_fo [7] (sok_if (tok_test (eok_op r2_lt (eok_callB F3.cr_len (aok_cons (eok_var 2) aok_nil)) (eok_var 1)))
  (sok_seq (sok_set 7 (eok_int 0))
 (sok_seq (sok_if (tok_test (eok_op r2_gt (eok_callB F3.cr_len (aok_cons (eok_var 2) aok_nil)) (eok_int 0)))
  (sok_set 7 (eok_op r2_ix (eok_var 2) (eok_op r2_mod (eok_var 5) (eok_callB F3.cr_len (aok_cons (eok_var 2) aok_nil)))))
  sok_pass)
 (sok_app 2 (eok_op r2_mod (eok_op r2_add (eok_op r2_add (eok_op r2_mulI (eok_var 7) (eok_int 16807)) (eok_op r2_mulI (eok_int 31) (eok_callB F3.cr_len (aok_cons (eok_var 2) aok_nil)))) (eok_int 17)) (eok_int 1000003)))))
  sok_pass))))))
 (sok_ret (eok_sl (eok_var 2) ook_no (ook_is (eok_var 1)))))))
end
end Lk77
set_option maxRecDepth 100000
set_option maxHeartbeats 4000000
namespace Lk77
open PySem PySem.Spec PyProof.Rows L2 F3
section
variable {P : Program} {w : World} {K : PySem.W.Frag} {mg : Str → Option Value} {base : Heap}
theorem ok__law_is_number (T : Top P K mg) : FnG P w K mg base 1 T.a__law_is_number T.fd__law_is_number ["value"] (spD K 1 f__law_is_number) := by
  unfold f__law_is_number b__law_is_number
  refine fnG_data T.F__law_is_number sc__law_is_number rfl rfl fun cdv A outer s H hr hG => ?_
  refine ⟨_, (pss_one (ps_ret (pe_and (pe_callB call_isi (by rfl) T.z_isinstance bt_isinstance (pa_cons (pv 0) (pa_cons (pe_bltn (v := .ty "int") (by rfl) T.z_int bt_int rfl) pa_nil))) (pe_one (pe_not (pe_callB call_isi (by rfl) T.z_isinstance bt_isinstance (pa_cons (pv 0) (pa_cons (pe_bltn (v := .ty "bool") (by rfl) T.z_bool bt_bool rfl) pa_nil)))))))), ?_⟩
  exact (sok_ret (eok_and (eok_isi .int (eok_var 0)) (eok_not (eok_isi .bool (eok_var 0)))))
end
section
variable {P : Program} {w : World} {K : PySem.W.Frag} {mg : Str → Option Value} {base : Heap}
theorem ok__law_same (T : Top P K mg) : ∀ n : Nat, FnG P w K mg base (1 + n) T.a__law_same T.fd__law_same ["told", "due"] (spD K 2 (f__law_same n))
  | 0 => ⟨fun vs H Q E h => h.1, fun A o s H a us vs Q hr hg he hb hv hs => by
    obtain ⟨_, ds, r, Z, _, _, z, _⟩ := hs
    cases z⟩
  | n + 1 => fnG_data T.F__law_same sc__law_same rfl rfl fun cdv A outer s H hr hG => by
    have ih := ok__law_same T n
    have hr : Room (1 + n) _ := hr
    have hrr := hr
    refine ⟨_, (pss_cons (ps_if (pt_val (pe_callB call_isi (by rfl) T.z_isinstance bt_isinstance (pa_cons (pv 1) (pa_cons (pe_bltn (v := .ty "bool") (by rfl) T.z_bool bt_bool rfl) pa_nil))))
  (pss_one (ps_ret (pe_and (pe_callB call_isi (by rfl) T.z_isinstance bt_isinstance (pa_cons (pv 0) (pa_cons (pe_bltn (v := .ty "bool") (by rfl) T.z_bool bt_bool rfl) pa_nil))) (pe_one (pe_cmpR (op_eqA hr.units) (pv 0) (pv 1) (nomark _))))))
  pss_nil)
 (pss_cons (ps_if (pt_val (pe_callB call_isi (by rfl) T.z_isinstance bt_isinstance (pa_cons (pv 1) (pa_cons (pe_bltn (v := .ty "int") (by rfl) T.z_int bt_int rfl) pa_nil))))
  (pss_one (ps_ret (pe_and (pe_callG (ok__law_is_number T) (hr.mono (by omega)) hG (by rfl) T.g__law_is_number T.F__law_is_number.kp T.B__law_is_number (pa_cons (pv 0) pa_nil)) (pe_one (pe_cmpR (op_eqA hr.units) (pv 0) (pv 1) (nomark _))))))
  pss_nil)
 (pss_cons (ps_if (pt_val (pe_callB call_isi (by rfl) T.z_isinstance bt_isinstance (pa_cons (pv 1) (pa_cons (pe_bltn (v := .ty "str") (by rfl) T.z_str bt_str rfl) pa_nil))))
  (pss_one (ps_ret (pe_and (pe_callB call_isi (by rfl) T.z_isinstance bt_isinstance (pa_cons (pv 0) (pa_cons (pe_bltn (v := .ty "str") (by rfl) T.z_str bt_str rfl) pa_nil))) (pe_one (pe_cmpR (op_eqA hr.units) (pv 0) (pv 1) (nomark _))))))
  pss_nil)
 (pss_cons (ps_if (pt_cmpR op_isA (pv 1) pe_non (nomark _))
  (pss_one (ps_ret (pe_cmpR op_isA (pv 0) pe_non (nomark _))))
  pss_nil)
 (pss_cons (ps_if (PW.pt (pw_and (pt_val (pe_callB call_isi (by rfl) T.z_isinstance bt_isinstance (pa_cons (pv 1) (pa_cons (pe_bltn (v := .ty "tuple") (by rfl) T.z_tuple bt_tuple rfl) pa_nil)))) (pw_and1 (pt_not (pt_val (pe_callB call_isi (by rfl) T.z_isinstance bt_isinstance (pa_cons (pv 0) (pa_cons (pe_bltn (v := .ty "tuple") (by rfl) T.z_tuple bt_tuple rfl) pa_nil))))))))
  (pss_one (ps_ret pe_bl))
  pss_nil)
 (pss_cons (ps_if (PW.pt (pw_and (pt_val (pe_callB call_isi (by rfl) T.z_isinstance bt_isinstance (pa_cons (pv 1) (pa_cons (pe_bltn (v := .ty "list") (by rfl) T.z_list bt_list rfl) pa_nil)))) (pw_and1 (pt_not (pt_val (pe_callB call_isi (by rfl) T.z_isinstance bt_isinstance (pa_cons (pv 0) (pa_cons (pe_bltn (v := .ty "list") (by rfl) T.z_list bt_list rfl) pa_nil))))))))
  (pss_one (ps_ret pe_bl))
  pss_nil)
 (pss_cons (ps_if (pt_cmpR (op_neA hr.units) (pe_callB call_lenA (by rfl) T.z_len bt_len (pa_cons (pv 0) pa_nil)) (pe_callB call_lenA (by rfl) T.z_len bt_len (pa_cons (pv 1) pa_nil)) (nomark _))
  (pss_one (ps_ret pe_bl))
  pss_nil)
 (pss_cons (ps_for PassesOwn.never rfl (pi_range1 (by rfl) T.z_range (pa_cons (pe_callB call_lenA (by rfl) T.z_len bt_len (pa_cons (pv 1) pa_nil)) pa_nil)) (pg_name (i := 2) sc__law_same.nd rfl (Or.inl rfl))
  (pss_one (ps_if (pt_not (pt_val (pe_callG ih hrr hG (by rfl) T.g__law_same T.F__law_same.kp T.B__law_same (pa_cons (pe_ix ix_seq (pv 0) (pv 2) (fun _ _ => rfl)) (pa_cons (pe_ix ix_seq (pv 1) (pv 2) (fun _ _ => rfl)) pa_nil)))))
  (pss_one (ps_ret pe_bl))
  pss_nil)))
 (pss_one (ps_ret pe_bl)))))))))), ?_⟩
    exact (sok_seq (sok_if (tok_val (eok_isi .bool (eok_var 1)))
  (sok_ret (eok_and (eok_isi .bool (eok_var 0)) (eok_op r2_eq (eok_var 0) (eok_var 1))))
  sok_pass)
 (sok_seq (sok_if (tok_val (eok_isi .int (eok_var 1)))
  (sok_ret (eok_and (eok_fn (aok_cons (eok_var 0) aok_nil) (an_cons an_nil)) (eok_op r2_eq (eok_var 0) (eok_var 1))))
  sok_pass)
 (sok_seq (sok_if (tok_val (eok_isi .str (eok_var 1)))
  (sok_ret (eok_and (eok_isi .str (eok_var 0)) (eok_op r2_eq (eok_var 0) (eok_var 1))))
  sok_pass)
 (sok_seq (sok_if (tok_test (eok_op r2_is (eok_var 1) eok_none))
  (sok_ret (eok_op r2_is (eok_var 0) eok_none))
  sok_pass)
 (sok_seq (sok_if (tok_and (tok_val (eok_isi .tuple (eok_var 1))) (tok_not (tok_val (eok_isi .tuple (eok_var 0)))))
  (sok_ret (eok_bool false))
  sok_pass)
 (sok_seq (sok_if (tok_and (tok_val (eok_isi .list (eok_var 1))) (tok_not (tok_val (eok_isi .list (eok_var 0)))))
  (sok_ret (eok_bool false))
  sok_pass)
 (sok_seq (sok_if (tok_test (eok_op r2_ne (eok_callB F3.cr_len (aok_cons (eok_var 0) aok_nil)) (eok_callB F3.cr_len (aok_cons (eok_var 1) aok_nil))))
  (sok_ret (eok_bool false))
  sok_pass)
 (sok_seq (sok_fo [2] (sok_pre [2] (sok_for (iok_rng1 (aok_cons (eok_callB F3.cr_len (aok_cons (eok_var 1) aok_nil)) aok_nil)) (gok_name 2)
  (sok_fo [2] (sok_if (tok_not (tok_val (eok_fn (aok_cons (eok_op r2_ix (eok_var 0) (eok_var 2)) (aok_cons (eok_op r2_ix (eok_var 1) (eok_var 2)) aok_nil)) (an_cons (an_cons an_nil)))))
  (sok_ret (eok_bool false))
  sok_pass)))))
 (sok_ret (eok_bool true))))))))))
end
section
variable {P : Program} {w : World} {K : PySem.W.Frag} {mg : Str → Option Value} {base : Heap}
theorem ok__law_even (T : Top P K mg) : FnG P w K mg base 1 T.a__law_even T.fd__law_even ["draws", "at", "steps", "most"] (spD K 4 f__law_even) := by
  unfold f__law_even b__law_even
  refine fnG_data T.F__law_even sc__law_even rfl rfl fun cdv A outer s H hr hG => ?_
  refine ⟨_, (pss_cons (ps_asg (pe_tup (pa_cons pe_int (pa_cons pe_int (pa_cons pe_int (pa_cons pe_int pa_nil))))) (pg_tup rfl (pgs_cons (pg_name (i := 4) sc__law_even.nd rfl (Or.inl rfl)) (pgs_cons (pg_name (i := 5) sc__law_even.nd rfl (Or.inl rfl)) (pgs_cons (pg_name (i := 6) sc__law_even.nd rfl (Or.inl rfl)) (pgs_cons (pg_name (i := 7) sc__law_even.nd rfl (Or.inl rfl)) pgs_nil))))))
 (pss_cons (ps_for PassesOwn.never rfl (pi_range1 (by rfl) T.z_range (pa_cons (pv 2) pa_nil)) (pg_name (i := 8) sc__law_even.nd rfl (Or.inl rfl))
  (pss_cons (ps_set (i := 9) sc__law_even.nd rfl (Or.inl rfl) (pe_op op_sub (pe_op op_modN (pe_ix ix_seq (pv 0) (pe_op op_add4 (pv 1) (pv 8)) (fun _ _ => rfl)) (pe_op op_add4 (pe_op op_mulW pe_int (pv 3)) pe_int)) (pv 3)))
 (pss_one (ps_if (pt_cmpR (op_eqA hr.units) (pe_op op_modN (pv 8) pe_int) pe_int (nomark _))
  (pss_cons (ps_set (i := 4) sc__law_even.nd rfl (Or.inl rfl) (pe_op op_add4 (pv 4) (pe_op op_mulW (pv 9) (pv 6))))
 (pss_one (ps_set (i := 5) sc__law_even.nd rfl (Or.inl rfl) (pe_op op_add4 (pv 5) (pe_op op_mulW (pv 9) (pv 7))))))
  (pss_cons (ps_set (i := 6) sc__law_even.nd rfl (Or.inl rfl) (pe_op op_add4 (pv 6) (pe_op op_mulW (pv 9) (pv 4))))
 (pss_one (ps_set (i := 7) sc__law_even.nd rfl (Or.inl rfl) (pe_op op_add4 (pv 7) (pe_op op_mulW (pv 9) (pv 5))))))))))
 (pss_one (ps_ret (pe_tup (pa_cons (pv 4) (pa_cons (pv 5) (pa_cons (pv 6) (pa_cons (pv 7) pa_nil))))))))), ?_⟩
  exact (sok_seq (sok_unp (gok_tup (gsok_cons (gok_name 4) (gsok_cons (gok_name 5) (gsok_cons (gok_name 6) (gsok_cons (gok_name 7) gsok_nil)))) (gs_len (gs_len (gs_len (gs_len gs_len0 _) _) _) _)) (eok_tup (aok_cons (eok_int 1) (aok_cons (eok_int 0) (aok_cons (eok_int 0) (aok_cons (eok_int 1) aok_nil))))))
 (sok_seq (sok_fo [8, 9] (sok_pre [8, 9] (sok_for (iok_rng1 (aok_cons (eok_var 2) aok_nil)) (gok_name 8)
  (sok_fo [8, 9] (sok_seq (sok_set 9 (eok_op r2_sub (eok_op r2_mod (eok_op r2_ix (eok_var 0) (eok_op r2_add (eok_var 1) (eok_var 8))) (eok_op r2_add (eok_op r2_mulI (eok_int 2) (eok_var 3)) (eok_int 1))) (eok_var 3)))
 (sok_if (tok_test (eok_op r2_eq (eok_op r2_mod (eok_var 8) (eok_int 2)) (eok_int 0)))
  (sok_seq (sok_set 4 (eok_op r2_add (eok_var 4) (eok_op r2_mulI (eok_var 9) (eok_var 6))))
 (sok_set 5 (eok_op r2_add (eok_var 5) (eok_op r2_mulI (eok_var 9) (eok_var 7)))))
  (sok_seq (sok_set 6 (eok_op r2_add (eok_var 6) (eok_op r2_mulI (eok_var 9) (eok_var 4))))
 (sok_set 7 (eok_op r2_add (eok_var 7) (eok_op r2_mulI (eok_var 9) (eok_var 5)))))))))))
 (sok_ret (eok_tup (aok_cons (eok_var 4) (aok_cons (eok_var 5) (aok_cons (eok_var 6) (aok_cons (eok_var 7) aok_nil))))))))
end
section
variable {P : Program} {w : World} {K : PySem.W.Frag} {mg : Str → Option Value} {base : Heap}
theorem ok__law_times (T : Top P K mg) : FnG P w K mg base 1 T.a__law_times T.fd__law_times ["first", "second"] (spD K 2 f__law_times) := by
  unfold f__law_times b__law_times
  refine fnG_data T.F__law_times sc__law_times rfl rfl fun cdv A outer s H hr hG => ?_
  refine ⟨_, (pss_cons (ps_asg (pv 0) (pg_tup rfl (pgs_cons (pg_name (i := 2) sc__law_times.nd rfl (Or.inl rfl)) (pgs_cons (pg_name (i := 3) sc__law_times.nd rfl (Or.inl rfl)) (pgs_cons (pg_name (i := 4) sc__law_times.nd rfl (Or.inl rfl)) (pgs_cons (pg_name (i := 5) sc__law_times.nd rfl (Or.inl rfl)) pgs_nil))))))
 (pss_cons (ps_asg (pv 1) (pg_tup rfl (pgs_cons (pg_name (i := 6) sc__law_times.nd rfl (Or.inl rfl)) (pgs_cons (pg_name (i := 7) sc__law_times.nd rfl (Or.inl rfl)) (pgs_cons (pg_name (i := 8) sc__law_times.nd rfl (Or.inl rfl)) (pgs_cons (pg_name (i := 9) sc__law_times.nd rfl (Or.inl rfl)) pgs_nil))))))
 (pss_one (ps_ret (pe_tup (pa_cons (pe_op op_add4 (pe_op op_mulW (pv 2) (pv 6)) (pe_op op_mulW (pv 3) (pv 8))) (pa_cons (pe_op op_add4 (pe_op op_mulW (pv 2) (pv 7)) (pe_op op_mulW (pv 3) (pv 9))) (pa_cons (pe_op op_add4 (pe_op op_mulW (pv 4) (pv 6)) (pe_op op_mulW (pv 5) (pv 8))) (pa_cons (pe_op op_add4 (pe_op op_mulW (pv 4) (pv 7)) (pe_op op_mulW (pv 5) (pv 9))) pa_nil))))))))), ?_⟩
  exact (sok_seq (sok_unp (gok_tup (gsok_cons (gok_name 2) (gsok_cons (gok_name 3) (gsok_cons (gok_name 4) (gsok_cons (gok_name 5) gsok_nil)))) (gs_len (gs_len (gs_len (gs_len gs_len0 _) _) _) _)) (eok_var 0))
 (sok_seq (sok_unp (gok_tup (gsok_cons (gok_name 6) (gsok_cons (gok_name 7) (gsok_cons (gok_name 8) (gsok_cons (gok_name 9) gsok_nil)))) (gs_len (gs_len (gs_len (gs_len gs_len0 _) _) _) _)) (eok_var 1))
 (sok_ret (eok_tup (aok_cons (eok_op r2_add (eok_op r2_mulI (eok_var 2) (eok_var 6)) (eok_op r2_mulI (eok_var 3) (eok_var 8))) (aok_cons (eok_op r2_add (eok_op r2_mulI (eok_var 2) (eok_var 7)) (eok_op r2_mulI (eok_var 3) (eok_var 9))) (aok_cons (eok_op r2_add (eok_op r2_mulI (eok_var 4) (eok_var 6)) (eok_op r2_mulI (eok_var 5) (eok_var 8))) (aok_cons (eok_op r2_add (eok_op r2_mulI (eok_var 4) (eok_var 7)) (eok_op r2_mulI (eok_var 5) (eok_var 9))) aok_nil))))))))
end
section
variable {P : Program} {w : World} {K : PySem.W.Frag} {mg : Str → Option Value} {base : Heap}
theorem ok__law_by (T : Top P K mg) : FnG P w K mg base 2 T.a__law_by T.fd__law_by ["h", "turn"] (spD K 2 f__law_by) := by
  unfold f__law_by b__law_by
  refine fnG_data T.F__law_by sc__law_by rfl rfl fun cdv A outer s H hr hG => ?_
  refine ⟨_, (pss_one (ps_ret (pe_callG (ok__law_times T) (hr.mono (by omega)) hG (by rfl) T.g__law_times T.F__law_times.kp T.B__law_times (pa_cons (pe_callG (ok__law_times T) (hr.mono (by omega)) hG (by rfl) T.g__law_times T.F__law_times.kp T.B__law_times (pa_cons (pv 0) (pa_cons (pv 1) pa_nil))) (pa_cons (pe_tup (pa_cons (pe_ix ix_seq (pv 0) pe_int (fun _ _ => rfl)) (pa_cons (pe_un un_neg (pe_ix ix_seq (pv 0) pe_int (fun _ _ => rfl))) (pa_cons (pe_un un_neg (pe_ix ix_seq (pv 0) pe_int (fun _ _ => rfl))) (pa_cons (pe_ix ix_seq (pv 0) pe_int (fun _ _ => rfl)) pa_nil))))) pa_nil))))), ?_⟩
  exact (sok_ret (eok_fn (aok_cons (eok_fn (aok_cons (eok_var 0) (aok_cons (eok_var 1) aok_nil)) (an_cons (an_cons an_nil))) (aok_cons (eok_tup (aok_cons (eok_op r2_ix (eok_var 0) (eok_int 3)) (aok_cons (eok_un r1_neg (eok_op r2_ix (eok_var 0) (eok_int 1))) (aok_cons (eok_un r1_neg (eok_op r2_ix (eok_var 0) (eok_int 2))) (aok_cons (eok_op r2_ix (eok_var 0) (eok_int 0)) aok_nil))))) aok_nil)) (an_cons (an_cons an_nil))))
end
section
variable {P : Program} {w : World} {K : PySem.W.Frag} {mg : Str → Option Value} {base : Heap}
theorem ok__law_keeps (T : Top P K mg) : FnG P w K mg base 1 T.a__law_keeps T.fd__law_keeps ["kind", "turn"] (spD K 2 f__law_keeps) := by
  unfold f__law_keeps b__law_keeps
  refine fnG_data T.F__law_keeps sc__law_keeps rfl rfl fun cdv A outer s H hr hG => ?_
  refine ⟨_, (pss_cons (ps_asg (pv 1) (pg_tup rfl (pgs_cons (pg_name (i := 2) sc__law_keeps.nd rfl (Or.inr rfl)) (pgs_cons (pg_name (i := 3) sc__law_keeps.nd rfl (Or.inr rfl)) (pgs_cons (pg_name (i := 4) sc__law_keeps.nd rfl (Or.inr rfl)) (pgs_cons (pg_name (i := 5) sc__law_keeps.nd rfl (Or.inr rfl)) pgs_nil))))))
 (pss_cons (ps_set (i := 6) sc__law_keeps.nd rfl (Or.inl rfl) (pe_lst (pa_cons (pe_tup (pa_cons (pe_un un_neg pe_int) (pa_cons (pe_un un_neg pe_int) pa_nil))) (pa_cons (pe_tup (pa_cons (pe_un un_neg pe_int) (pa_cons pe_int pa_nil))) (pa_cons (pe_tup (pa_cons pe_int (pa_cons (pe_un un_neg pe_int) pa_nil))) (pa_cons (pe_tup (pa_cons pe_int (pa_cons pe_int pa_nil))) pa_nil))))))
 (pss_cons (ps_if (pt_cmpR (op_eqA hr.units) (pv 0) pe_str (nomark _))
  (pss_one (ps_set (i := 6) sc__law_keeps.nd rfl (Or.inl rfl) (pe_lst (pa_cons (pe_tup (pa_cons (pe_un un_neg pe_int) (pa_cons (pe_un un_neg pe_int) pa_nil))) (pa_cons (pe_tup (pa_cons (pe_un un_neg pe_int) (pa_cons pe_int pa_nil))) (pa_cons (pe_tup (pa_cons pe_int (pa_cons (pe_un un_neg pe_int) pa_nil))) (pa_cons (pe_tup (pa_cons pe_int (pa_cons pe_int pa_nil))) (pa_cons (pe_tup (pa_cons pe_int (pa_cons pe_int pa_nil))) (pa_cons (pe_tup (pa_cons pe_int (pa_cons pe_int pa_nil))) pa_nil)))))))))
  pss_nil)
 (pss_one (ps_ret (pe_cmpR (op_eqA hr.units) (pe_callB (call_sortD (ru66 hr)) (by rfl) T.z_sorted bt_sorted (pa_cons (pe_lc (own := [("x", 7), ("y", 8)]) (g := (gTup K 2 (gCons (gName 7) (gCons (gName 8) gNil)))) (tt := tYes) (te := (tTup (tCons (tOp (rAdd4 K) (tOp rMulI (tVar 2) (tVar 7)) (tOp rMulI (tVar 3) (tVar 8))) (tCons (tOp (rAdd4 K) (tOp rMulI (tVar 4) (tVar 7)) (tOp rMulI (tVar 5) (tVar 8))) tNil)))) rfl sc__law_keeps.nd (pi_seq (pv 6)) (blkOk_by (own := [("x", 7), ("y", 8)]) (N := N__law_keeps) (sc := defScope s__law_keeps) (by decide +kernel)) (fun _ _ _ _ _ => by exact (pg_tup rfl (pgs_cons (pg_name (i := 7) sc__law_keeps.nd rfl (Or.inl rfl)) (pgs_cons (pg_name (i := 8) sc__law_keeps.nd rfl (Or.inl rfl)) pgs_nil)))) (fun _ _ _ _ _ => by exact pts_nil) (fun _ _ _ _ _ => by exact (pe_tup (pa_cons (pe_op op_add4 (pe_op op_mulW (pv 2) (pv 7)) (pe_op op_mulW (pv 3) (pv 8))) (pa_cons (pe_op op_add4 (pe_op op_mulW (pv 4) (pv 7)) (pe_op op_mulW (pv 5) (pv 8))) pa_nil))))) pa_nil)) (pv 6) (nomark _))))))), ?_⟩
  exact (sok_seq (sok_unp (gok_tup (gsok_cons (gok_name 2) (gsok_cons (gok_name 3) (gsok_cons (gok_name 4) (gsok_cons (gok_name 5) gsok_nil)))) (gs_len (gs_len (gs_len (gs_len gs_len0 _) _) _) _)) (eok_var 1))
 (sok_seq (sok_set 6 (eok_lst (aok_cons (eok_tup (aok_cons (eok_un r1_neg (eok_int 1)) (aok_cons (eok_un r1_neg (eok_int 1)) aok_nil))) (aok_cons (eok_tup (aok_cons (eok_un r1_neg (eok_int 1)) (aok_cons (eok_int 1) aok_nil))) (aok_cons (eok_tup (aok_cons (eok_int 1) (aok_cons (eok_un r1_neg (eok_int 1)) aok_nil))) (aok_cons (eok_tup (aok_cons (eok_int 1) (aok_cons (eok_int 1) aok_nil))) aok_nil))))))
 (sok_seq (sok_if (tok_test (eok_op r2_eq (eok_var 0) (eok_str "hexagon")))
  (sok_set 6 (eok_lst (aok_cons (eok_tup (aok_cons (eok_un r1_neg (eok_int 1)) (aok_cons (eok_un r1_neg (eok_int 1)) aok_nil))) (aok_cons (eok_tup (aok_cons (eok_un r1_neg (eok_int 1)) (aok_cons (eok_int 0) aok_nil))) (aok_cons (eok_tup (aok_cons (eok_int 0) (aok_cons (eok_un r1_neg (eok_int 1)) aok_nil))) (aok_cons (eok_tup (aok_cons (eok_int 0) (aok_cons (eok_int 1) aok_nil))) (aok_cons (eok_tup (aok_cons (eok_int 1) (aok_cons (eok_int 0) aok_nil))) (aok_cons (eok_tup (aok_cons (eok_int 1) (aok_cons (eok_int 1) aok_nil))) aok_nil))))))))
  sok_pass)
 (sok_frz [6] (sok_ret (eok_op r2_eq (eok_callB cr_sortD (aok_cons (eok_lc (iok_seq (eok_var 6)) (gok_tup (gsok_cons (gok_name 7) (gsok_cons (gok_name 8) gsok_nil)) (gs_len (gs_len gs_len0 _) _)) tok_yes (eok_tup (aok_cons (eok_op r2_add (eok_op r2_mulI (eok_var 2) (eok_var 7)) (eok_op r2_mulI (eok_var 3) (eok_var 8))) (aok_cons (eok_op r2_add (eok_op r2_mulI (eok_var 4) (eok_var 7)) (eok_op r2_mulI (eok_var 5) (eok_var 8))) aok_nil))) (by decide)) aok_nil)) (eok_var 6)))))))
end
section
variable {P : Program} {w : World} {K : PySem.W.Frag} {mg : Str → Option Value} {base : Heap}
theorem ok__law_keeping (T : Top P K mg) : FnG P w K mg base 2 T.a__law_keeping T.fd__law_keeping ["kind"] (spD K 1 f__law_keeping) := by
  unfold f__law_keeping b__law_keeping
  refine fnG_data T.F__law_keeping sc__law_keeping rfl rfl fun cdv A outer s H hr hG => ?_
  refine ⟨_, (pss_cons (ps_set (i := 1) sc__law_keeping.nd rfl (Or.inl rfl) (pe_lst pa_nil))
 (pss_cons (ps_for PassesOwn.never rfl (pi_range2 (by rfl) T.z_range (pa_cons (pe_un un_neg pe_int) (pa_cons pe_int pa_nil))) (pg_name (i := 2) sc__law_keeping.nd rfl (Or.inl rfl))
  (pss_one (ps_for PassesOwn.never rfl (pi_range2 (by rfl) T.z_range (pa_cons (pe_un un_neg pe_int) (pa_cons pe_int pa_nil))) (pg_name (i := 3) sc__law_keeping.nd rfl (Or.inl rfl))
  (pss_one (ps_for PassesOwn.never rfl (pi_range2 (by rfl) T.z_range (pa_cons (pe_un un_neg pe_int) (pa_cons pe_int pa_nil))) (pg_name (i := 4) sc__law_keeping.nd rfl (Or.inl rfl))
  (pss_one (ps_for PassesOwn.never rfl (pi_range2 (by rfl) T.z_range (pa_cons (pe_un un_neg pe_int) (pa_cons pe_int pa_nil))) (pg_name (i := 5) sc__law_keeping.nd rfl (Or.inl rfl))
  (pss_one (ps_if (PW.pt (pw_and (pt_cmpR (op_eqA hr.units) (pe_callB call_abs (by rfl) T.z_abs bt_abs (pa_cons (pe_op op_sub (pe_op op_mulW (pv 2) (pv 5)) (pe_op op_mulW (pv 3) (pv 4))) pa_nil)) pe_int (nomark _)) (pw_and1 (pt_val (pe_callG (ok__law_keeps T) (hr.mono (by omega)) hG (by rfl) T.g__law_keeps T.F__law_keeps.kp T.B__law_keeps (pa_cons (pv 0) (pa_cons (pe_tup (pa_cons (pv 2) (pa_cons (pv 3) (pa_cons (pv 4) (pa_cons (pv 5) pa_nil))))) pa_nil)))))))
  (pss_one (ps_expr (pe_bm PySem.F.plainAttrs_list PySem.F.slot_list_append PySem.F.type_list_append mt_append (pv 1) (pa_cons (pe_tup (pa_cons (pv 2) (pa_cons (pv 3) (pa_cons (pv 4) (pa_cons (pv 5) pa_nil))))) pa_nil))))
  pss_nil)))))))))
 (pss_one (ps_ret (pv 1))))), ?_⟩
  exact (sok_seq (sok_set 1 (eok_lst aok_nil))
 (sok_seq (sok_fo [2, 3, 4, 5] (sok_pre [2, 3, 4, 5] (sok_for (iok_rng2 (aok_cons (eok_un r1_neg (eok_int 1)) (aok_cons (eok_int 2) aok_nil))) (gok_name 2)
  (sok_fo [2, 3, 4, 5] (sok_fo [3, 4, 5] (sok_pre [3, 4, 5] (sok_for (iok_rng2 (aok_cons (eok_un r1_neg (eok_int 1)) (aok_cons (eok_int 2) aok_nil))) (gok_name 3)
  (sok_fo [3, 4, 5] (sok_fo [4, 5] (sok_pre [4, 5] (sok_for (iok_rng2 (aok_cons (eok_un r1_neg (eok_int 1)) (aok_cons (eok_int 2) aok_nil))) (gok_name 4)
  (sok_fo [4, 5] (sok_fo [5] (sok_pre [5] (sok_for (iok_rng2 (aok_cons (eok_un r1_neg (eok_int 1)) (aok_cons (eok_int 2) aok_nil))) (gok_name 5)
  (sok_fo [5] (sok_if (tok_and (tok_test (eok_op r2_eq (eok_callB F3.cr_abs (aok_cons (eok_op r2_sub (eok_op r2_mulI (eok_var 2) (eok_var 5)) (eok_op r2_mulI (eok_var 3) (eok_var 4))) aok_nil)) (eok_int 1))) (tok_val (eok_fn (aok_cons (eok_var 0) (aok_cons (eok_tup (aok_cons (eok_var 2) (aok_cons (eok_var 3) (aok_cons (eok_var 4) (aok_cons (eok_var 5) aok_nil))))) aok_nil)) (an_cons (an_cons an_nil)))))
  (sok_app 1 (eok_tup (aok_cons (eok_var 2) (aok_cons (eok_var 3) (aok_cons (eok_var 4) (aok_cons (eok_var 5) aok_nil))))))
  sok_pass)))))))))))))))))
 (sok_ret (eok_var 1))))
end
section
variable {P : Program} {w : World} {K : PySem.W.Frag} {mg : Str → Option Value} {base : Heap}
theorem ok__law_plain (T : Top P K mg) : FnG P w K mg base 1 T.a__law_plain T.fd__law_plain ["turn"] (spD K 1 f__law_plain) := by
  unfold f__law_plain b__law_plain
  refine fnG_data T.F__law_plain sc__law_plain rfl rfl fun cdv A outer s H hr hG => ?_
  refine ⟨_, (pss_one (ps_ret (pe_tup (pa_cons (pe_ix ix_seq (pv 0) pe_int (fun _ _ => rfl)) (pa_cons (pe_ix ix_seq (pv 0) pe_int (fun _ _ => rfl)) (pa_cons (pe_ix ix_seq (pv 0) pe_int (fun _ _ => rfl)) (pa_cons (pe_ix ix_seq (pv 0) pe_int (fun _ _ => rfl)) (pa_cons pe_int (pa_cons pe_int pa_nil))))))))), ?_⟩
  exact (sok_ret (eok_tup (aok_cons (eok_op r2_ix (eok_var 0) (eok_int 0)) (aok_cons (eok_op r2_ix (eok_var 0) (eok_int 1)) (aok_cons (eok_op r2_ix (eok_var 0) (eok_int 2)) (aok_cons (eok_op r2_ix (eok_var 0) (eok_int 3)) (aok_cons (eok_int 0) (aok_cons (eok_int 0) aok_nil))))))))
end
end Lk77
set_option maxRecDepth 100000
set_option maxHeartbeats 4000000
namespace Lk77
open PySem PySem.Spec PyProof.Rows L2 F3
section
variable {P : Program} {w : World} {K : PySem.W.Frag} {mg : Str → Option Value} {base : Heap}
theorem ok__law_closed (T : Top P K mg) : FnG P w K mg base 2 T.a__law_closed T.fd__law_closed ["moves"] (spD K 1 f__law_closed) := by
  unfold f__law_closed b__law_closed
  refine fnG_data T.F__law_closed sc__law_closed rfl rfl fun cdv A outer s H hr hG => ?_
  refine ⟨_, (pss_cons (ps_set (i := 1) sc__law_closed.nd rfl (Or.inl rfl) (pe_lst (pa_cons (pe_tup (pa_cons pe_int (pa_cons pe_int (pa_cons pe_int (pa_cons pe_int pa_nil))))) pa_nil)))
 (pss_cons (ps_for PassesOwn.never rfl (pi_range1 (by rfl) T.z_range (pa_cons pe_int pa_nil)) (pg_name (i := 2) sc__law_closed.nd rfl (Or.inl rfl))
  (pss_one (ps_if (PW.pt (pw_and (pt_cmpR op_lt (pv 2) (pe_callB call_lenA (by rfl) T.z_len bt_len (pa_cons (pv 1) pa_nil)) (nomark _)) (pw_and1 (pt_cmpR op_lt (pe_callB call_lenA (by rfl) T.z_len bt_len (pa_cons (pv 1) pa_nil)) pe_int (nomark _)))))
  (pss_one (ps_for PassesOwn.never rfl (pi_seq (pv 0)) (pg_name (i := 3) sc__law_closed.nd rfl (Or.inl rfl))
  (pss_cons (ps_set (i := 4) sc__law_closed.nd rfl (Or.inl rfl) (pe_callG (ok__law_times T) (hr.mono (by omega)) hG (by rfl) T.g__law_times T.F__law_times.kp T.B__law_times (pa_cons (pv 3) (pa_cons (pe_ix ix_seq (pv 1) (pv 2) (fun _ _ => rfl)) pa_nil))))
 (pss_one (ps_if (pt_cmpR (op_notInA (ru65 hr)) (pv 4) (pv 1) (by rfl))
  (pss_one (ps_expr (pe_bm PySem.F.plainAttrs_list PySem.F.slot_list_append PySem.F.type_list_append mt_append (pv 1) (pa_cons (pv 4) pa_nil))))
  pss_nil)))))
  pss_nil)))
 (pss_one (ps_ret (pv 1))))), ?_⟩
  exact (sok_seq (sok_set 1 (eok_lst (aok_cons (eok_tup (aok_cons (eok_int 1) (aok_cons (eok_int 0) (aok_cons (eok_int 0) (aok_cons (eok_int 1) aok_nil))))) aok_nil)))
 (sok_seq (sok_fo [2, 3, 4] (sok_pre [2, 3, 4] (sok_for (iok_rng1 (aok_cons (eok_int 13) aok_nil)) (gok_name 2)
  (sok_fo [2, 3, 4] (sok_fo [3, 4] (sok_if (tok_and (tok_test (eok_op r2_lt (eok_var 2) (eok_callB F3.cr_len (aok_cons (eok_var 1) aok_nil)))) (tok_test (eok_op r2_lt (eok_callB F3.cr_len (aok_cons (eok_var 1) aok_nil)) (eok_int 14))))
  (sok_fo [3, 4] (sok_pre [3, 4] (sok_for (iok_seq (eok_var 0)) (gok_name 3)
  (sok_fo [3, 4] (sok_seq (sok_set 4 (eok_fn (aok_cons (eok_var 3) (aok_cons (eok_op r2_ix (eok_var 1) (eok_var 2)) aok_nil)) (an_cons (an_cons an_nil))))
 (sok_if (tok_test (eok_op (r2_in true) (eok_var 4) (eok_var 1)))
  (sok_app 1 (eok_var 4))
  sok_pass))))))
  sok_pass))))))
 (sok_ret (eok_var 1))))
end
section
variable {P : Program} {w : World} {K : PySem.W.Frag} {mg : Str → Option Value} {base : Heap}
theorem ok__law_placed_moves (T : Top P K mg) : FnG P w K mg base 3 T.a__law_placed_moves T.fd__law_placed_moves ["draws", "at"] (spD K 2 f__law_placed_moves) := by
  unfold f__law_placed_moves b__law_placed_moves
  refine fnG_data T.F__law_placed_moves sc__law_placed_moves rfl rfl fun cdv A outer s H hr hG => ?_
  refine ⟨_, (pss_cons (ps_set (i := 2) sc__law_placed_moves.nd rfl (Or.inl rfl) (pe_ix ix_seq (pe_lst (pa_cons pe_str (pa_cons pe_str pa_nil))) (pe_op op_modN (pe_ix ix_seq (pv 0) (pv 1) (fun _ _ => rfl)) pe_int) (fun _ _ => rfl)))
 (pss_cons (ps_set (i := 3) sc__law_placed_moves.nd rfl (Or.inl rfl) (pe_callG (ok__law_keeping T) (hr.mono (by omega)) hG (by rfl) T.g__law_keeping T.F__law_keeping.kp T.B__law_keeping (pa_cons (pv 2) pa_nil)))
 (pss_cons (ps_set (i := 4) sc__law_placed_moves.nd rfl (Or.inl rfl) (pe_callG (ok__law_even T) (hr.mono (by omega)) hG (by rfl) T.g__law_even T.F__law_even.kp T.B__law_even (pa_cons (pv 0) (pa_cons (pe_op op_add4 (pv 1) pe_int) (pa_cons (pe_op op_modN (pe_op op_fdivA (pe_ix ix_seq (pv 0) (pv 1) (fun _ _ => rfl)) pe_int) pe_int) (pa_cons pe_int pa_nil))))))
 (pss_cons (ps_if (pt_cmpR (op_eqA hr.units) (pe_op op_modN (pe_op op_fdivA (pe_ix ix_seq (pv 0) (pv 1) (fun _ _ => rfl)) pe_int) pe_int) pe_int (nomark _))
  (pss_one (ps_set (i := 4) sc__law_placed_moves.nd rfl (Or.inl rfl) (pe_tup (pa_cons pe_int (pa_cons (pe_op op_sub (pe_op op_modN (pe_ix ix_seq (pv 0) (pe_op op_add4 (pv 1) pe_int) (fun _ _ => rfl)) pe_int) pe_int) (pa_cons pe_int (pa_cons pe_int pa_nil)))))))
  pss_nil)
 (pss_cons (ps_set (i := 5) sc__law_placed_moves.nd rfl (Or.inl rfl) (pe_lst pa_nil))
 (pss_cons (ps_for PassesOwn.never rfl (pi_range1 (by rfl) T.z_range (pa_cons (pe_op op_modN (pe_op op_fdivA (pe_ix ix_seq (pv 0) (pv 1) (fun _ _ => rfl)) pe_int) pe_int) pa_nil)) (pg_name (i := 6) sc__law_placed_moves.nd rfl (Or.inl rfl))
  (pss_one (ps_expr (pe_bm PySem.F.plainAttrs_list PySem.F.slot_list_append PySem.F.type_list_append mt_append (pv 5) (pa_cons (pe_callG (ok__law_by T) (hr.mono (by omega)) hG (by rfl) T.g__law_by T.F__law_by.kp T.B__law_by (pa_cons (pv 4) (pa_cons (pe_ix ix_seq (pv 3) (pe_op op_modN (pe_ix ix_seq (pv 0) (pe_op op_add4 (pe_op op_add4 (pv 1) pe_int) (pv 6)) (fun _ _ => rfl)) (pe_callB call_lenA (by rfl) T.z_len bt_len (pa_cons (pv 3) pa_nil))) (fun _ _ => rfl)) pa_nil))) pa_nil)))))
 (pss_one (ps_ret (pe_tup (pa_cons (pv 2) (pa_cons (pv 4) (pa_cons (pv 5) pa_nil)))))))))))), ?_⟩
  exact (sok_seq (sok_set 2 (eok_op r2_ix (eok_lst (aok_cons (eok_str "square") (aok_cons (eok_str "hexagon") aok_nil))) (eok_op r2_mod (eok_op r2_ix (eok_var 0) (eok_var 1)) (eok_int 2))))
 (sok_seq (sok_set 3 (eok_fn (aok_cons (eok_var 2) aok_nil) (an_cons an_nil)))
 (sok_seq (sok_set 4 (eok_fn (aok_cons (eok_var 0) (aok_cons (eok_op r2_add (eok_var 1) (eok_int 1)) (aok_cons (eok_op r2_mod (eok_op r2_fdiv (eok_op r2_ix (eok_var 0) (eok_var 1)) (eok_int 2)) (eok_int 4)) (aok_cons (eok_int 2) aok_nil)))) (an_cons (an_cons (an_cons (an_cons an_nil))))))
 (sok_seq (sok_if (tok_test (eok_op r2_eq (eok_op r2_mod (eok_op r2_fdiv (eok_op r2_ix (eok_var 0) (eok_var 1)) (eok_int 50)) (eok_int 8)) (eok_int 3)))
  (sok_set 4 (eok_tup (aok_cons (eok_int 1) (aok_cons (eok_op r2_sub (eok_op r2_mod (eok_op r2_ix (eok_var 0) (eok_op r2_add (eok_var 1) (eok_int 1))) (eok_int 61)) (eok_int 30)) (aok_cons (eok_int 0) (aok_cons (eok_int 1) aok_nil))))))
  sok_pass)
 (sok_seq (sok_set 5 (eok_lst aok_nil))
 (sok_seq (sok_fo [6] (sok_pre [6] (sok_for (iok_rng1 (aok_cons (eok_op r2_mod (eok_op r2_fdiv (eok_op r2_ix (eok_var 0) (eok_var 1)) (eok_int 10)) (eok_int 5)) aok_nil)) (gok_name 6)
  (sok_fo [6] (sok_app 5 (eok_fn (aok_cons (eok_var 4) (aok_cons (eok_op r2_ix (eok_var 3) (eok_op r2_mod (eok_op r2_ix (eok_var 0) (eok_op r2_add (eok_op r2_add (eok_var 1) (eok_int 5)) (eok_var 6))) (eok_callB F3.cr_len (aok_cons (eok_var 3) aok_nil)))) aok_nil)) (an_cons (an_cons an_nil))))))))
 (sok_frz [5] (sok_ret (eok_tup (aok_cons (eok_var 2) (aok_cons (eok_var 4) (aok_cons (eok_var 5) aok_nil))))))))))))
end
section
variable {P : Program} {w : World} {K : PySem.W.Frag} {mg : Str → Option Value} {base : Heap}
theorem ok__law_world (T : Top P K mg) : FnG P w K mg base 4 T.a__law_world T.fd__law_world ["draws"] (spD K 1 f__law_world) := by
  unfold f__law_world b__law_world
  refine fnG_data T.F__law_world sc__law_world rfl rfl fun cdv A outer s H hr hG => ?_
  refine ⟨_, (pss_cons (ps_asg (pe_callG (ok__law_placed_moves T) (hr.mono (by omega)) hG (by rfl) T.g__law_placed_moves T.F__law_placed_moves.kp T.B__law_placed_moves (pa_cons (pv 0) (pa_cons pe_int pa_nil))) (pg_tup rfl (pgs_cons (pg_name (i := 1) sc__law_world.nd rfl (Or.inl rfl)) (pgs_cons (pg_name (i := 2) sc__law_world.nd rfl (Or.inl rfl)) (pgs_cons (pg_name (i := 3) sc__law_world.nd rfl (Or.inl rfl)) pgs_nil)))))
 (pss_cons (ps_if (pt_cmpR (op_neA hr.units) (pe_op op_modN (pe_ix ix_seq (pv 0) pe_int (fun _ _ => rfl)) pe_int) pe_int (nomark _))
  (pss_one (ps_ret (pv 3)))
  pss_nil)
 (pss_cons (ps_set (i := 4) sc__law_world.nd rfl (Or.inl rfl) (pe_op op_add4 pe_int (pe_op op_modN (pe_ix ix_seq (pv 0) pe_int (fun _ _ => rfl)) pe_int)))
 (pss_cons (ps_set (i := 5) sc__law_world.nd rfl (Or.inl rfl) pe_int)
 (pss_cons (ps_if (pt_cmpR (op_eqA hr.units) (pe_op op_modN (pe_op op_fdivA (pe_ix ix_seq (pv 0) pe_int (fun _ _ => rfl)) pe_int) pe_int) pe_int (nomark _))
  (pss_one (ps_set (i := 5) sc__law_world.nd rfl (Or.inl rfl) pe_int))
  pss_nil)
 (pss_cons (ps_set (i := 6) sc__law_world.nd rfl (Or.inl rfl) (pe_lst pa_nil))
 (pss_cons (ps_for PassesOwn.never rfl (pi_range1 (by rfl) T.z_range (pa_cons (pv 4) pa_nil)) (pg_name (i := 7) sc__law_world.nd rfl (Or.inl rfl))
  (pss_cons (ps_set (i := 8) sc__law_world.nd rfl (Or.inl rfl) (pe_callG (ok__law_even T) (hr.mono (by omega)) hG (by rfl) T.g__law_even T.F__law_even.kp T.B__law_even (pa_cons (pv 0) (pa_cons (pe_op op_add4 pe_int (pe_op op_mulW pe_int (pv 7))) (pa_cons (pe_op op_add4 pe_int (pe_op op_modN (pe_op op_fdivA (pe_ix ix_seq (pv 0) pe_int (fun _ _ => rfl)) pe_int) pe_int)) (pa_cons (pv 5) pa_nil))))))
 (pss_cons (ps_if (pt_cmpR (op_eqA hr.units) (pe_op op_modN (pe_ix ix_seq (pv 0) (pe_op op_add4 pe_int (pv 7)) (fun _ _ => rfl)) pe_int) pe_int (nomark _))
  (pss_one (ps_set (i := 8) sc__law_world.nd rfl (Or.inl rfl) (pe_tup (pa_cons (pe_ix ix_seq (pv 8) pe_int (fun _ _ => rfl)) (pa_cons (pe_ix ix_seq (pv 8) pe_int (fun _ _ => rfl)) (pa_cons (pe_un un_neg (pe_ix ix_seq (pv 8) pe_int (fun _ _ => rfl))) (pa_cons (pe_un un_neg (pe_ix ix_seq (pv 8) pe_int (fun _ _ => rfl))) pa_nil)))))))
  pss_nil)
 (pss_cons (ps_if (pt_cmpR (op_eqA hr.units) (pe_op op_modN (pe_op op_fdivA (pe_ix ix_seq (pv 0) (pe_op op_add4 pe_int (pv 7)) (fun _ _ => rfl)) pe_int) pe_int) pe_int (nomark _))
  (pss_one (ps_set (i := 8) sc__law_world.nd rfl (Or.inl rfl) (pe_tup (pa_cons (pe_ix ix_seq (pv 8) pe_int (fun _ _ => rfl)) (pa_cons (pe_ix ix_seq (pv 8) pe_int (fun _ _ => rfl)) (pa_cons (pe_un un_neg (pe_ix ix_seq (pv 8) pe_int (fun _ _ => rfl))) (pa_cons (pe_un un_neg (pe_ix ix_seq (pv 8) pe_int (fun _ _ => rfl))) pa_nil)))))))
  pss_nil)
 (pss_one (ps_expr (pe_bm PySem.F.plainAttrs_list PySem.F.slot_list_append PySem.F.type_list_append mt_append (pv 6) (pa_cons (pv 8) pa_nil))))))))
 (pss_cons (ps_if (pt_cmpR (op_eqA hr.units) (pe_op op_modN (pe_ix ix_seq (pv 0) pe_int (fun _ _ => rfl)) pe_int) pe_int (nomark _))
  (pss_one (ps_ret (pe_slice sl_2 (pe_op op_add4 (pv 3) (pv 6)) po_none (po_some pe_int))))
  pss_nil)
 (pss_one (ps_ret (pv 6))))))))))), ?_⟩
  exact (sok_seq (sok_unp (gok_tup (gsok_cons (gok_name 1) (gsok_cons (gok_name 2) (gsok_cons (gok_name 3) gsok_nil))) (gs_len (gs_len (gs_len gs_len0 _) _) _)) (eok_fn (aok_cons (eok_var 0) (aok_cons (eok_int 0) aok_nil)) (an_cons (an_cons an_nil))))
 (sok_seq (sok_if (tok_test (eok_op r2_ne (eok_op r2_mod (eok_op r2_ix (eok_var 0) (eok_int 10)) (eok_int 4)) (eok_int 3)))
  (sok_ret (eok_var 3))
  sok_pass)
 (sok_seq (sok_set 4 (eok_op r2_add (eok_int 1) (eok_op r2_mod (eok_op r2_ix (eok_var 0) (eok_int 11)) (eok_int 4))))
 (sok_seq (sok_set 5 (eok_int 3))
 (sok_seq (sok_if (tok_test (eok_op r2_eq (eok_op r2_mod (eok_op r2_fdiv (eok_op r2_ix (eok_var 0) (eok_int 11)) (eok_int 4)) (eok_int 8)) (eok_int 5)))
  (sok_set 5 (eok_int 9))
  sok_pass)
 (sok_seq (sok_set 6 (eok_lst aok_nil))
 (sok_seq (sok_fo [7, 8] (sok_pre [7, 8] (sok_for (iok_rng1 (aok_cons (eok_var 4) aok_nil)) (gok_name 7)
  (sok_fo [7, 8] (sok_seq (sok_set 8 (eok_fn (aok_cons (eok_var 0) (aok_cons (eok_op r2_add (eok_int 12) (eok_op r2_mulI (eok_int 3) (eok_var 7))) (aok_cons (eok_op r2_add (eok_int 1) (eok_op r2_mod (eok_op r2_fdiv (eok_op r2_ix (eok_var 0) (eok_int 11)) (eok_int 32)) (eok_int 3))) (aok_cons (eok_var 5) aok_nil)))) (an_cons (an_cons (an_cons (an_cons an_nil))))))
 (sok_seq (sok_if (tok_test (eok_op r2_eq (eok_op r2_mod (eok_op r2_ix (eok_var 0) (eok_op r2_add (eok_int 24) (eok_var 7))) (eok_int 2)) (eok_int 0)))
  (sok_set 8 (eok_tup (aok_cons (eok_op r2_ix (eok_var 8) (eok_int 0)) (aok_cons (eok_op r2_ix (eok_var 8) (eok_int 1)) (aok_cons (eok_un r1_neg (eok_op r2_ix (eok_var 8) (eok_int 2))) (aok_cons (eok_un r1_neg (eok_op r2_ix (eok_var 8) (eok_int 3))) aok_nil))))))
  sok_pass)
 (sok_seq (sok_if (tok_test (eok_op r2_eq (eok_op r2_mod (eok_op r2_fdiv (eok_op r2_ix (eok_var 0) (eok_op r2_add (eok_int 24) (eok_var 7))) (eok_int 2)) (eok_int 3)) (eok_int 0)))
  (sok_set 8 (eok_tup (aok_cons (eok_op r2_ix (eok_var 8) (eok_int 2)) (aok_cons (eok_op r2_ix (eok_var 8) (eok_int 3)) (aok_cons (eok_un r1_neg (eok_op r2_ix (eok_var 8) (eok_int 0))) (aok_cons (eok_un r1_neg (eok_op r2_ix (eok_var 8) (eok_int 1))) aok_nil))))))
  sok_pass)
 (sok_app 6 (eok_var 8)))))))))
 (sok_seq (sok_if (tok_test (eok_op r2_eq (eok_op r2_mod (eok_op r2_ix (eok_var 0) (eok_int 28)) (eok_int 3)) (eok_int 0)))
  (sok_ret (eok_sl (eok_op r2_add (eok_var 3) (eok_var 6)) ook_no (ook_is (eok_int 4))))
  sok_pass)
 (sok_ret (eok_var 6))))))))))
end
section
variable {P : Program} {w : World} {K : PySem.W.Frag} {mg : Str → Option Value} {base : Heap}
theorem ok__law_told (T : Top P K mg) : FnG P w K mg base 27 T.a__law_told T.fd__law_told ["moves"] (spD K 1 f__law_told) := by
  unfold f__law_told b__law_told
  refine fnG_data T.F__law_told sc__law_told rfl rfl fun cdv A outer s H hr hG => ?_
  refine ⟨_, (pss_cons (ps_setLc (i := 1) (own := [("move", 10)]) (g := (gName 10)) (tt := tYes) (te := (tCallD (spD K 1 f__law_plain) (tCons (tVar 10) tNil))) rfl sc__law_told.nd rfl rfl (sw_true rfl rfl rfl (by decide +kernel)) (pi_seq (pv 0)) (blkOk_by (own := [("move", 10)]) (N := N__law_told) (sc := defScope s__law_told) (by decide +kernel)) (fun _ _ _ _ _ => by exact (pg_name (i := 10) sc__law_told.nd rfl (Or.inl rfl))) (fun _ _ _ _ _ => by exact pts_nil) (fun _ _ _ _ _ => by exact (pe_callG (ok__law_plain T) (hr.mono (by omega)) hG (by rfl) T.g__law_plain T.F__law_plain.kp T.B__law_plain (pa_cons (pv 10) pa_nil))))
 (pss_cons (ps_set (i := 2) sc__law_told.nd rfl (Or.inr rfl) (pe_callG (ok__law_closed T) (hr.mono (by omega)) hG (by rfl) T.g__law_closed T.F__law_closed.kp T.B__law_closed (pa_cons (pv 0) pa_nil)))
 (pss_cons (ps_set (i := 3) sc__law_told.nd rfl (Or.inl rfl) pe_non)
 (pss_cons (ps_set (i := 4) sc__law_told.nd rfl (Or.inl rfl) pe_bl)
 (pss_cons (L2N.ps_try_as (i := 5) rfl rfl sc__law_told.nd rfl rfl ⟨by rfl, by decide, .inl T.g_EndlessGroup⟩ takesN0 (fun W pn xe tk _ => pss_one (ps_set (i := 3) sc__law_told.nd rfl (Or.inl rfl) (pe_callX (ok_group_of T) (hr.mono (by omega)) hG (by rfl) T.g_group_of T.F_group_of.kp T.B_group_of (fun σ => L2N.passAt tk σ) (pa_cons (pv 1) pa_nil))))
  (fun a oe cls d pn hz hf => (pss_cons (ps_set (i := 6) sc__law_told.nd rfl (Or.inl rfl) (pe_or (pe_isE T.C_EndlessGroup (L2N.Zn.zc hz) hf (by rfl) T.z_isinstance (pa_cons (pv 5) (pa_cons (pe_glob (v := .ref T.x_EndlessOrder) (by rfl) T.g_EndlessOrder rfl) pa_nil))) (pe_one (pe_isE T.C_EndlessGroup (L2N.Zn.zc hz) hf (by rfl) T.z_isinstance (pa_cons (pv 5) (pa_cons (pe_glob (v := .ref T.x_NotFlippable) (by rfl) T.g_NotFlippable rfl) pa_nil))))))
 (pss_one (ps_set (i := 4) sc__law_told.nd rfl (Or.inl rfl) (pe_and (pe_isE T.C_EndlessGroup (L2N.Zn.zc hz) hf (by rfl) T.z_isinstance (pa_cons (pv 5) (pa_cons (pe_glob (v := .ref T.x_GridError) (by rfl) T.g_GridError rfl) pa_nil))) (pe_and (pe_isE T.C_EndlessGroup (L2N.Zn.zc hz) hf (by rfl) T.z_isinstance (pa_cons (pv 5) (pa_cons (pe_bltn (v := .ty "ValueError") (by rfl) T.z_ValueError bt_ValueError rfl) pa_nil))) (pe_one (pe_not (pv 6))))))))))
 (pss_cons (ps_if (pt_cmpR (op_neA hr.units) (pv 1) (pe_lc (own := [("move", 10)]) (g := (gName 10)) (tt := tYes) (te := (tCallD (spD K 1 f__law_plain) (tCons (tVar 10) tNil))) rfl sc__law_told.nd (pi_seq (pv 0)) (blkOk_by (own := [("move", 10)]) (N := N__law_told) (sc := defScope s__law_told) (by decide +kernel)) (fun _ _ _ _ _ => by exact (pg_name (i := 10) sc__law_told.nd rfl (Or.inl rfl))) (fun _ _ _ _ _ => by exact pts_nil) (fun _ _ _ _ _ => by exact (pe_callG (ok__law_plain T) (hr.mono (by omega)) hG (by rfl) T.g__law_plain T.F__law_plain.kp T.B__law_plain (pa_cons (pv 10) pa_nil)))) (nomark _))
  (pss_one (ps_ret pe_bl))
  pss_nil)
 (pss_cons (ps_if (pt_cmpR op_gt (pe_callB call_lenA (by rfl) T.z_len bt_len (pa_cons (pv 2) pa_nil)) pe_int (nomark _))
  (pss_one (ps_ret (pe_and (pv 4) (pe_one (pe_cmpR op_isA (pv 3) pe_non (nomark _))))))
  pss_nil)
 (pss_cons (ps_if (PW.pt (pw_or (pt_val (pv 4)) (pw_or1 (pt_not (pt_val (pe_callG (ok__law_same T 24) (hr.mono (by omega)) hG (by rfl) T.g__law_same T.F__law_same.kp T.B__law_same (pa_cons (pv 3) (pa_cons (pe_callB (call_sortD (ru66 hr)) (by rfl) T.z_sorted bt_sorted (pa_cons (pe_lc (own := [("move", 10)]) (g := (gName 10)) (tt := tYes) (te := (tCallD (spD K 1 f__law_plain) (tCons (tVar 10) tNil))) rfl sc__law_told.nd (pi_seq (pv 2)) (blkOk_by (own := [("move", 10)]) (N := N__law_told) (sc := defScope s__law_told) (by decide +kernel)) (fun _ _ _ _ _ => by exact (pg_name (i := 10) sc__law_told.nd rfl (Or.inl rfl))) (fun _ _ _ _ _ => by exact pts_nil) (fun _ _ _ _ _ => by exact (pe_callG (ok__law_plain T) (hr.mono (by omega)) hG (by rfl) T.g__law_plain T.F__law_plain.kp T.B__law_plain (pa_cons (pv 10) pa_nil)))) pa_nil)) pa_nil))))))))
  (pss_one (ps_ret pe_bl))
  pss_nil)
 (pss_cons (ps_for PassesOwn.never rfl (pi_seq (pv 2)) (pg_name (i := 7) sc__law_told.nd rfl (Or.inr rfl))
  (pss_cons (ps_set (i := 8) sc__law_told.nd rfl (Or.inl rfl) (pe_op op_sub (pe_op op_mulW (pe_ix ix_seq (pv 7) pe_int (fun _ _ => rfl)) (pe_ix ix_seq (pv 7) pe_int (fun _ _ => rfl))) (pe_op op_mulW (pe_ix ix_seq (pv 7) pe_int (fun _ _ => rfl)) (pe_ix ix_seq (pv 7) pe_int (fun _ _ => rfl)))))
 (pss_cons (ps_set (i := 9) sc__law_told.nd rfl (Or.inl rfl) (pe_tup (pa_cons (pe_op op_mulW (pv 8) (pe_ix ix_seq (pv 7) pe_int (fun _ _ => rfl))) (pa_cons (pe_op op_mulW (pe_un un_neg (pv 8)) (pe_ix ix_seq (pv 7) pe_int (fun _ _ => rfl))) (pa_cons (pe_op op_mulW (pe_un un_neg (pv 8)) (pe_ix ix_seq (pv 7) pe_int (fun _ _ => rfl))) (pa_cons (pe_op op_mulW (pv 8) (pe_ix ix_seq (pv 7) pe_int (fun _ _ => rfl))) pa_nil))))))
 (pss_one (ps_if (PW.pt (pw_or (pt_cmpR (op_notInA (ru65 hr)) (pv 9) (pv 2) (by rfl)) (pw_or1 (pt_cmpR op_gt (pe_callB call_lenA (by rfl) T.z_len bt_len (pa_cons (pe_lc (own := [("other", 6)]) (g := (gName 6)) (tt := (tTest (tOp (rInA K true) (tCallD (spD K 2 f__law_times) (tCons (tVar 7) (tCons (tVar 6) tNil))) (tVar 2)))) (te := (tVar 6)) rfl sc__law_told.nd (pi_seq (pv 2)) (blkOk_by (own := [("other", 6)]) (N := N__law_told) (sc := defScope s__law_told) (by decide +kernel)) (fun _ _ _ _ _ => by exact (pg_name (i := 6) sc__law_told.nd rfl (Or.inl rfl))) (fun _ _ _ _ _ => by exact (pts_one (pt_cmpR (op_notInA (ru65 hr)) (pe_callG (ok__law_times T) (hr.mono (by omega)) hG (by rfl) T.g__law_times T.F__law_times.kp T.B__law_times (pa_cons (pv 7) (pa_cons (pv 6) pa_nil))) (pv 2) (by rfl)))) (fun _ _ _ _ _ => by exact (pv 6))) pa_nil)) pe_int (nomark _)))))
  (pss_one (ps_ret pe_bl))
  pss_nil)))))
 (pss_cons (ps_expr (pe_bm PySem.F.plainAttrs_list PySem.F.slot_list_append PySem.F.type_list_append mt_append (pv 3) (pa_cons (pe_tup (pa_cons pe_int (pa_cons pe_int (pa_cons pe_int (pa_cons pe_int (pa_cons pe_int (pa_cons pe_int pa_nil))))))) pa_nil)))
 (pss_cons (ps_asg (pe_tup (pa_cons pe_int (pa_cons pe_int (pa_cons pe_int (pa_cons pe_int (pa_cons pe_int (pa_cons pe_int pa_nil))))))) (pg_sub (pv 3) pe_int set_list))
 (pss_one (ps_ret (pe_callG (ok__law_same T 24) (hr.mono (by omega)) hG (by rfl) T.g__law_same T.F__law_same.kp T.B__law_same (pa_cons (pe_callG (toG (ok_group_of T) rfl) (hr.mono (by omega)) hG (by rfl) T.g_group_of T.F_group_of.kp T.B_group_of (pa_cons (pv 1) pa_nil)) (pa_cons (pe_callB (call_sortD (ru66 hr)) (by rfl) T.z_sorted bt_sorted (pa_cons (pe_lc (own := [("move", 10)]) (g := (gName 10)) (tt := tYes) (te := (tCallD (spD K 1 f__law_plain) (tCons (tVar 10) tNil))) rfl sc__law_told.nd (pi_seq (pv 2)) (blkOk_by (own := [("move", 10)]) (N := N__law_told) (sc := defScope s__law_told) (by decide +kernel)) (fun _ _ _ _ _ => by exact (pg_name (i := 10) sc__law_told.nd rfl (Or.inl rfl))) (fun _ _ _ _ _ => by exact pts_nil) (fun _ _ _ _ _ => by exact (pe_callG (ok__law_plain T) (hr.mono (by omega)) hG (by rfl) T.g__law_plain T.F__law_plain.kp T.B__law_plain (pa_cons (pv 10) pa_nil)))) pa_nil)) pa_nil)))))))))))))))), ?_⟩
  exact (sok_seq (sok_set 1 (eok_lc (iok_seq (eok_var 0)) (gok_name 10) tok_yes (eok_fn (aok_cons (eok_var 10) aok_nil) (an_cons an_nil)) (by decide)))
 (sok_seq (sok_set 2 (eok_fn (aok_cons (eok_var 0) aok_nil) (an_cons an_nil)))
 (sok_seq (sok_set 3 eok_none)
 (sok_seq (sok_set 4 (eok_bool false))
 (sok_seq (sok_frz [1] (sok_try (cl := clT T) (t0 := "EndlessGroup") (aok_cons (eok_var 1) aok_nil) (an_cons an_nil) T.m_EndlessGroup_EndlessGroup (soks_seq (soks_set (by decide) fun a => (eoks_or (eoks_isE (b := false) (fun _ h => h) T.k_EndlessGroup_EndlessOrder) (eoks_isE (b := false) (fun _ h => h) T.k_EndlessGroup_NotFlippable)))
 (soks_set (by decide) fun a => (eoks_and (eoks_isE (b := true) (fun _ h => h) T.k_EndlessGroup_GridError) (eoks_and (eoks_isE (b := true) (fun _ h => h) T.k_EndlessGroup_ValueError) (eoks_of (eok_not (eok_var 6)))))))))
 (sok_seq (sok_if (tok_test (eok_op r2_ne (eok_var 1) (eok_lc (iok_seq (eok_var 0)) (gok_name 10) tok_yes (eok_fn (aok_cons (eok_var 10) aok_nil) (an_cons an_nil)) (by decide))))
  (sok_ret (eok_bool false))
  sok_pass)
 (sok_seq (sok_if (tok_test (eok_op r2_gt (eok_callB F3.cr_len (aok_cons (eok_var 2) aok_nil)) (eok_int 12)))
  (sok_ret (eok_and (eok_var 4) (eok_op r2_is (eok_var 3) eok_none)))
  sok_pass)
 (sok_seq (sok_if (tok_lend [2, 3] (tok_or (tok_val (eok_var 4)) (tok_not (tok_val (eok_fn (aok_cons (eok_var 3) (aok_cons (eok_callB cr_sortD (aok_cons (eok_lc (iok_seq (eok_var 2)) (gok_name 10) tok_yes (eok_fn (aok_cons (eok_var 10) aok_nil) (an_cons an_nil)) (by decide)) aok_nil)) aok_nil)) (an_cons (an_cons an_nil)))))))
  (sok_ret (eok_bool false))
  sok_pass)
 (sok_seq (sok_frz [2] (sok_fo [7, 8, 9] (sok_pre [7, 8, 9] (sok_for (iok_seq (eok_var 2)) (gok_name 7)
  (sok_fo [7, 8, 9] (sok_seq (sok_set 8 (eok_op r2_sub (eok_op r2_mulI (eok_op r2_ix (eok_var 7) (eok_int 0)) (eok_op r2_ix (eok_var 7) (eok_int 3))) (eok_op r2_mulI (eok_op r2_ix (eok_var 7) (eok_int 1)) (eok_op r2_ix (eok_var 7) (eok_int 2)))))
 (sok_seq (sok_set 9 (eok_tup (aok_cons (eok_op r2_mulI (eok_var 8) (eok_op r2_ix (eok_var 7) (eok_int 3))) (aok_cons (eok_op r2_mulI (eok_un r1_neg (eok_var 8)) (eok_op r2_ix (eok_var 7) (eok_int 1))) (aok_cons (eok_op r2_mulI (eok_un r1_neg (eok_var 8)) (eok_op r2_ix (eok_var 7) (eok_int 2))) (aok_cons (eok_op r2_mulI (eok_var 8) (eok_op r2_ix (eok_var 7) (eok_int 0))) aok_nil))))))
 (sok_if (tok_lend [2] (tok_or (tok_test (eok_op (r2_in true) (eok_var 9) (eok_var 2))) (tok_test (eok_op r2_gt (eok_callB F3.cr_len (aok_cons (eok_lc (iok_seq (eok_var 2)) (gok_name 6) (tok_test (eok_op (r2_in true) (eok_fn (aok_cons (eok_var 7) (aok_cons (eok_var 6) aok_nil)) (an_cons (an_cons an_nil))) (eok_var 2))) (eok_var 6) (by decide)) aok_nil)) (eok_int 0)))))
  (sok_ret (eok_bool false))
  sok_pass))))))))
 (sok_seq (sok_app 3 (eok_tup (aok_cons (eok_int 1) (aok_cons (eok_int 2) (aok_cons (eok_int 3) (aok_cons (eok_int 4) (aok_cons (eok_int 5) (aok_cons (eok_int 6) aok_nil))))))))
 (sok_seq (sok_put 3 (eok_int 0) (eok_tup (aok_cons (eok_int 0) (aok_cons (eok_int 0) (aok_cons (eok_int 0) (aok_cons (eok_int 0) (aok_cons (eok_int 0) (aok_cons (eok_int 0) aok_nil))))))))
 (sok_frz [1, 2] (sok_ret (eok_fn (aok_cons (eok_fn (aok_cons (eok_var 1) aok_nil) (an_cons an_nil)) (aok_cons (eok_callB cr_sortD (aok_cons (eok_lc (iok_seq (eok_var 2)) (gok_name 10) tok_yes (eok_fn (aok_cons (eok_var 10) aok_nil) (an_cons an_nil)) (by decide)) aok_nil)) aok_nil)) (an_cons (an_cons an_nil))))))))))))))))
end
section
variable {P : Program} {w : World} {K : PySem.W.Frag} {mg : Str → Option Value} {base : Heap}
theorem ok__law_part_one (T : Top P K mg) : FnG P w K mg base 28 T.a__law_part_one T.fd__law_part_one ["script"] (spD K 1 f__law_part_one) := by
  unfold f__law_part_one b__law_part_one
  refine fnG_data T.F__law_part_one sc__law_part_one rfl rfl fun cdv A outer s H hr hG => ?_
  refine ⟨_, (pss_cons (ps_set (i := 1) sc__law_part_one.nd rfl (Or.inl rfl) (pe_callG (ok__law_draws T) (hr.mono (by omega)) hG (by rfl) T.g__law_draws T.F__law_draws.kp T.B__law_draws (pa_cons (pv 0) (pa_cons pe_int pa_nil))))
 (pss_cons (ps_set (i := 2) sc__law_part_one.nd rfl (Or.inl rfl) (pe_callG (ok__law_world T) (hr.mono (by omega)) hG (by rfl) T.g__law_world T.F__law_world.kp T.B__law_world (pa_cons (pv 1) pa_nil)))
 (pss_cons (ps_if (pt_cmpR (op_neA hr.units) (pe_lc (own := [("move", 3)]) (g := (gName 3)) (tt := (tTest (tOp rGtI (tCB (rMaxA K) (tCons (tLc (iSeq K (tVar 3)) (gName 5) tYes (tCB rAbsI (tCons (tVar 5) tNil)) [5]) tNil)) (tC (.int 1000))))) (te := (tVar 3)) rfl sc__law_part_one.nd (pi_seq (pv 2)) (blkOk_by (own := [("move", 3)]) (N := N__law_part_one) (sc := defScope s__law_part_one) (by decide +kernel)) (fun _ _ _ _ _ => by exact (pg_name (i := 3) sc__law_part_one.nd rfl (Or.inl rfl))) (fun _ _ _ _ _ => by exact (pts_one (pt_cmpR op_gt (pe_callB (call_maxA rfl) (by rfl) T.z_max bt_max (pa_cons (pe_lc (own := [("number", 5)]) (g := (gName 5)) (tt := tYes) (te := (tCB rAbsI (tCons (tVar 5) tNil))) rfl sc__law_part_one.nd (pi_seq (pv 3)) (blkOk_by (own := [("number", 5)]) (N := N__law_part_one) (sc := ⟨.function, [(".0", .local), ("move", .local), ("max", .globalImplicit)], false, false, []⟩) (by decide +kernel)) (fun _ _ _ _ _ => by exact (pg_name (i := 5) sc__law_part_one.nd rfl (Or.inl rfl))) (fun _ _ _ _ _ => by exact pts_nil) (fun _ _ _ _ _ => by exact (pe_callB call_abs (by rfl) T.z_abs bt_abs (pa_cons (pv 5) pa_nil)))) pa_nil)) pe_int (nomark _)))) (fun _ _ _ _ _ => by exact (pv 3))) (pe_lst pa_nil) (nomark _))
  (pss_one (ps_ret pe_bl))
  pss_nil)
 (pss_cons (ps_if (PW.pt (pw_or (pt_not (pt_val (pe_callG (ok__law_told T) (hr.mono (by omega)) hG (by rfl) T.g__law_told T.F__law_told.kp T.B__law_told (pa_cons (pv 2) pa_nil)))) (pw_or (pt_not (pt_val (pe_callG (ok__law_told T) (hr.mono (by omega)) hG (by rfl) T.g__law_told T.F__law_told.kp T.B__law_told (pa_cons (pe_slice3 (pv 2) po_none po_none (po_some (pe_un un_neg pe_int))) pa_nil)))) (pw_or1 (pt_not (pt_val (pe_callG (ok__law_told T) (hr.mono (by omega)) hG (by rfl) T.g__law_told T.F__law_told.kp T.B__law_told (pa_cons (pe_slice sl_2 (pe_op op_add4 (pv 2) (pv 2)) po_none (po_some pe_int)) pa_nil))))))))
  (pss_one (ps_ret pe_bl))
  pss_nil)
 (pss_cons (ps_for PassesOwn.never rfl (pi_seq (pv 2)) (pg_name (i := 3) sc__law_part_one.nd rfl (Or.inl rfl))
  (pss_one (ps_if (PW.pt (pw_or (pt_not (pt_val (pe_callG (ok__law_told T) (hr.mono (by omega)) hG (by rfl) T.g__law_told T.F__law_told.kp T.B__law_told (pa_cons (pe_lst (pa_cons (pv 3) pa_nil)) pa_nil)))) (pw_or1 (pt_not (pt_val (pe_callG (ok__law_told T) (hr.mono (by omega)) hG (by rfl) T.g__law_told T.F__law_told.kp T.B__law_told (pa_cons (pe_lst (pa_cons (pv 3) (pa_cons (pe_tup (pa_cons (pe_un un_neg pe_int) (pa_cons pe_int (pa_cons pe_int (pa_cons (pe_un un_neg pe_int) pa_nil))))) pa_nil))) pa_nil)))))))
  (pss_one (ps_ret pe_bl))
  pss_nil)))
 (pss_cons (ps_for PassesOwn.never rfl (pi_seq (pe_lst (pa_cons (pe_lst pa_nil) (pa_cons (pe_lst (pa_cons (pe_tup (pa_cons pe_int (pa_cons pe_int (pa_cons pe_int (pa_cons pe_int pa_nil))))) pa_nil)) (pa_cons (pe_lst (pa_cons (pe_tup (pa_cons pe_int (pa_cons pe_int (pa_cons pe_int (pa_cons pe_int pa_nil))))) pa_nil)) (pa_cons (pe_lst (pa_cons (pe_tup (pa_cons pe_int (pa_cons (pe_un un_neg pe_int) (pa_cons pe_int (pa_cons pe_int pa_nil))))) (pa_cons (pe_tup (pa_cons pe_int (pa_cons pe_int (pa_cons pe_int (pa_cons pe_int pa_nil))))) pa_nil))) (pa_cons (pe_lst (pa_cons (pe_tup (pa_cons pe_int (pa_cons (pe_un un_neg pe_int) (pa_cons pe_int (pa_cons pe_int pa_nil))))) (pa_cons (pe_tup (pa_cons pe_int (pa_cons pe_int (pa_cons pe_int (pa_cons pe_int pa_nil))))) pa_nil))) (pa_cons (pe_lst (pa_cons (pe_tup (pa_cons pe_int (pa_cons pe_int (pa_cons pe_int (pa_cons pe_int pa_nil))))) pa_nil)) pa_nil)))))))) (pg_name (i := 4) sc__law_part_one.nd rfl (Or.inl rfl))
  (pss_one (ps_if (pt_not (pt_val (pe_callG (ok__law_told T) (hr.mono (by omega)) hG (by rfl) T.g__law_told T.F__law_told.kp T.B__law_told (pa_cons (pv 4) pa_nil))))
  (pss_one (ps_ret pe_bl))
  pss_nil)))
 (pss_cons (ps_for PassesOwn.never rfl (pi_seq (pe_lst (pa_cons (pe_lst (pa_cons (pe_tup (pa_cons pe_int (pa_cons (pe_un un_neg pe_int) (pa_cons pe_int (pa_cons pe_int pa_nil))))) (pa_cons (pe_tup (pa_cons pe_int (pa_cons (pe_un un_neg pe_int) (pa_cons pe_int (pa_cons pe_int pa_nil))))) pa_nil))) (pa_cons (pe_lst (pa_cons (pe_tup (pa_cons pe_int (pa_cons pe_int (pa_cons pe_int (pa_cons (pe_un un_neg pe_int) pa_nil))))) (pa_cons (pe_tup (pa_cons pe_int (pa_cons pe_int (pa_cons pe_int (pa_cons (pe_un un_neg pe_int) pa_nil))))) pa_nil))) (pa_cons (pe_lst (pa_cons (pe_tup (pa_cons (pe_un un_neg pe_int) (pa_cons pe_int (pa_cons pe_int (pa_cons (pe_un un_neg pe_int) pa_nil))))) (pa_cons (pe_tup (pa_cons pe_int (pa_cons pe_int (pa_cons pe_int (pa_cons (pe_un un_neg pe_int) pa_nil))))) pa_nil))) (pa_cons (pe_lst (pa_cons (pe_tup (pa_cons pe_int (pa_cons (pe_un un_neg pe_int) (pa_cons pe_int (pa_cons (pe_un un_neg pe_int) pa_nil))))) pa_nil)) pa_nil)))))) (pg_name (i := 4) sc__law_part_one.nd rfl (Or.inl rfl))
  (pss_one (ps_if (pt_not (pt_val (pe_callG (ok__law_told T) (hr.mono (by omega)) hG (by rfl) T.g__law_told T.F__law_told.kp T.B__law_told (pa_cons (pv 4) pa_nil))))
  (pss_one (ps_ret pe_bl))
  pss_nil)))
 (pss_one (ps_ret (pe_callG (ok__law_told T) (hr.mono (by omega)) hG (by rfl) T.g__law_told T.F__law_told.kp T.B__law_told (pa_cons (pv 2) pa_nil))))))))))), ?_⟩
  exact (sok_seq (sok_set 1 (eok_fn (aok_cons (eok_var 0) (aok_cons (eok_int 30) aok_nil)) (an_cons (an_cons an_nil))))
 (sok_seq (sok_frz [1] (sok_set 2 (eok_fn (aok_cons (eok_var 1) aok_nil) (an_cons an_nil))))
 (sok_seq (sok_frz [2] (sok_if (tok_test (eok_op r2_ne (eok_lc (iok_seq (eok_var 2)) (gok_name 3) (tok_test (eok_op r2_gt (eok_callB cr_maxA (aok_cons (eok_lc (iok_seq (eok_var 3)) (gok_name 5) tok_yes (eok_callB F3.cr_abs (aok_cons (eok_var 5) aok_nil)) (by decide)) aok_nil)) (eok_int 1000))) (eok_var 3) (by decide)) (eok_lst aok_nil)))
  (sok_ret (eok_bool false))
  sok_pass))
 (sok_seq (sok_frz [2] (sok_if (tok_or (tok_not (tok_val (eok_fn (aok_cons (eok_var 2) aok_nil) (an_cons an_nil)))) (tok_or (tok_not (tok_val (eok_fn (aok_cons (eok_sl3 (eok_var 2) ook_no ook_no (ook_is (eok_un r1_neg (eok_int 1)))) aok_nil) (an_cons an_nil)))) (tok_not (tok_val (eok_fn (aok_cons (eok_sl (eok_op r2_add (eok_var 2) (eok_var 2)) ook_no (ook_is (eok_int 4))) aok_nil) (an_cons an_nil))))))
  (sok_ret (eok_bool false))
  sok_pass))
 (sok_seq (sok_frz [2] (sok_fo [3] (sok_pre [3] (sok_for (iok_seq (eok_var 2)) (gok_name 3)
  (sok_fo [3] (sok_if (tok_or (tok_not (tok_val (eok_fn (aok_cons (eok_lst (aok_cons (eok_var 3) aok_nil)) aok_nil) (an_cons an_nil)))) (tok_not (tok_val (eok_fn (aok_cons (eok_lst (aok_cons (eok_var 3) (aok_cons (eok_tup (aok_cons (eok_un r1_neg (eok_int 1)) (aok_cons (eok_int 0) (aok_cons (eok_int 0) (aok_cons (eok_un r1_neg (eok_int 1)) aok_nil))))) aok_nil))) aok_nil) (an_cons an_nil)))))
  (sok_ret (eok_bool false))
  sok_pass))))))
 (sok_seq (sok_fo [4] (sok_pre [4] (sok_for (iok_seq (eok_lst (aok_cons (eok_lst aok_nil) (aok_cons (eok_lst (aok_cons (eok_tup (aok_cons (eok_int 1) (aok_cons (eok_int 0) (aok_cons (eok_int 0) (aok_cons (eok_int 1) aok_nil))))) aok_nil)) (aok_cons (eok_lst (aok_cons (eok_tup (aok_cons (eok_int 1) (aok_cons (eok_int 1) (aok_cons (eok_int 0) (aok_cons (eok_int 1) aok_nil))))) aok_nil)) (aok_cons (eok_lst (aok_cons (eok_tup (aok_cons (eok_int 0) (aok_cons (eok_un r1_neg (eok_int 1)) (aok_cons (eok_int 1) (aok_cons (eok_int 1) aok_nil))))) (aok_cons (eok_tup (aok_cons (eok_int 0) (aok_cons (eok_int 1) (aok_cons (eok_int 1) (aok_cons (eok_int 0) aok_nil))))) aok_nil))) (aok_cons (eok_lst (aok_cons (eok_tup (aok_cons (eok_int 0) (aok_cons (eok_un r1_neg (eok_int 1)) (aok_cons (eok_int 1) (aok_cons (eok_int 0) aok_nil))))) (aok_cons (eok_tup (aok_cons (eok_int 0) (aok_cons (eok_int 1) (aok_cons (eok_int 1) (aok_cons (eok_int 0) aok_nil))))) aok_nil))) (aok_cons (eok_lst (aok_cons (eok_tup (aok_cons (eok_int 2) (aok_cons (eok_int 1) (aok_cons (eok_int 1) (aok_cons (eok_int 1) aok_nil))))) aok_nil)) aok_nil)))))))) (gok_name 4)
  (sok_fo [4] (sok_if (tok_not (tok_val (eok_fn (aok_cons (eok_var 4) aok_nil) (an_cons an_nil))))
  (sok_ret (eok_bool false))
  sok_pass)))))
 (sok_seq (sok_fo [4] (sok_pre [4] (sok_for (iok_seq (eok_lst (aok_cons (eok_lst (aok_cons (eok_tup (aok_cons (eok_int 0) (aok_cons (eok_un r1_neg (eok_int 1)) (aok_cons (eok_int 1) (aok_cons (eok_int 0) aok_nil))))) (aok_cons (eok_tup (aok_cons (eok_int 0) (aok_cons (eok_un r1_neg (eok_int 1)) (aok_cons (eok_int 1) (aok_cons (eok_int 1) aok_nil))))) aok_nil))) (aok_cons (eok_lst (aok_cons (eok_tup (aok_cons (eok_int 1) (aok_cons (eok_int 0) (aok_cons (eok_int 0) (aok_cons (eok_un r1_neg (eok_int 1)) aok_nil))))) (aok_cons (eok_tup (aok_cons (eok_int 1) (aok_cons (eok_int 1) (aok_cons (eok_int 0) (aok_cons (eok_un r1_neg (eok_int 1)) aok_nil))))) aok_nil))) (aok_cons (eok_lst (aok_cons (eok_tup (aok_cons (eok_un r1_neg (eok_int 1)) (aok_cons (eok_int 0) (aok_cons (eok_int 0) (aok_cons (eok_un r1_neg (eok_int 1)) aok_nil))))) (aok_cons (eok_tup (aok_cons (eok_int 1) (aok_cons (eok_int 999) (aok_cons (eok_int 0) (aok_cons (eok_un r1_neg (eok_int 1)) aok_nil))))) aok_nil))) (aok_cons (eok_lst (aok_cons (eok_tup (aok_cons (eok_int 0) (aok_cons (eok_un r1_neg (eok_int 1)) (aok_cons (eok_int 1) (aok_cons (eok_un r1_neg (eok_int 1)) aok_nil))))) aok_nil)) aok_nil)))))) (gok_name 4)
  (sok_fo [4] (sok_if (tok_not (tok_val (eok_fn (aok_cons (eok_var 4) aok_nil) (an_cons an_nil))))
  (sok_ret (eok_bool false))
  sok_pass)))))
 (sok_frz [2] (sok_ret (eok_fn (aok_cons (eok_var 2) aok_nil) (an_cons an_nil)))))))))))
end
section
variable {P : Program} {w : World} {K : PySem.W.Frag} {mg : Str → Option Value} {base : Heap}
theorem ok__law_is_tuple (T : Top P K mg) : FnG P w K mg base 2 T.a__law_is_tuple T.fd__law_is_tuple ["value", "width"] (spD K 2 f__law_is_tuple) := by
  unfold f__law_is_tuple b__law_is_tuple
  refine fnG_data T.F__law_is_tuple sc__law_is_tuple rfl rfl fun cdv A outer s H hr hG => ?_
  refine ⟨_, (pss_cons (ps_if (PW.pt (pw_or (pt_not (pt_val (pe_callB call_isi (by rfl) T.z_isinstance bt_isinstance (pa_cons (pv 0) (pa_cons (pe_bltn (v := .ty "tuple") (by rfl) T.z_tuple bt_tuple rfl) pa_nil))))) (pw_or1 (pt_cmpR (op_neA hr.units) (pe_callB call_lenA (by rfl) T.z_len bt_len (pa_cons (pv 0) pa_nil)) (pv 1) (nomark _)))))
  (pss_one (ps_ret pe_bl))
  pss_nil)
 (pss_cons (ps_for PassesOwn.never rfl (pi_seq (pv 0)) (pg_name (i := 2) sc__law_is_tuple.nd rfl (Or.inl rfl))
  (pss_one (ps_if (pt_not (pt_val (pe_callG (ok__law_is_number T) (hr.mono (by omega)) hG (by rfl) T.g__law_is_number T.F__law_is_number.kp T.B__law_is_number (pa_cons (pv 2) pa_nil))))
  (pss_one (ps_ret pe_bl))
  pss_nil)))
 (pss_one (ps_ret pe_bl)))), ?_⟩
  exact (sok_seq (sok_if (tok_or (tok_not (tok_val (eok_isi .tuple (eok_var 0)))) (tok_test (eok_op r2_ne (eok_callB F3.cr_len (aok_cons (eok_var 0) aok_nil)) (eok_var 1))))
  (sok_ret (eok_bool false))
  sok_pass)
 (sok_seq (sok_fo [2] (sok_pre [2] (sok_for (iok_seq (eok_var 0)) (gok_name 2)
  (sok_fo [2] (sok_if (tok_not (tok_val (eok_fn (aok_cons (eok_var 2) aok_nil) (an_cons an_nil))))
  (sok_ret (eok_bool false))
  sok_pass)))))
 (sok_ret (eok_bool true))))
end
section
variable {P : Program} {w : World} {K : PySem.W.Frag} {mg : Str → Option Value} {base : Heap}
theorem ok__law_fresh (T : Top P K mg) : ∀ n : Nat, FnG P w K mg base (0 + n) T.a__law_fresh T.fd__law_fresh ["value"] (spD K 1 (f__law_fresh n))
  | 0 => ⟨fun vs H Q E h => h.1, fun A o s H a us vs Q hr hg he hb hv hs => by
    obtain ⟨_, ds, r, Z, _, _, z, _⟩ := hs
    cases z⟩
  | n + 1 => fnG_data T.F__law_fresh sc__law_fresh rfl rfl fun cdv A outer s H hr hG => by
    have ih := ok__law_fresh T n
    have hr : Room (0 + n) _ := hr
    have hrr := hr
    refine ⟨_, (pss_cons (ps_if (pt_val (pe_callB call_isi (by rfl) T.z_isinstance bt_isinstance (pa_cons (pv 0) (pa_cons (pe_bltn (v := .ty "list") (by rfl) T.z_list bt_list rfl) pa_nil))))
  (pss_one (ps_ret (pe_lc (own := [("item", 1)]) (g := (gName 1)) (tt := tYes) (te := (tCallD (spD K 1 (f__law_fresh n)) (tCons (tVar 1) tNil))) rfl sc__law_fresh.nd (pi_seq (pv 0)) (blkOk_by (own := [("item", 1)]) (N := N__law_fresh) (sc := defScope s__law_fresh) (by decide +kernel)) (fun _ _ _ _ _ => by exact (pg_name (i := 1) sc__law_fresh.nd rfl (Or.inl rfl))) (fun _ _ _ _ _ => by exact pts_nil) (fun _ _ _ _ _ => by exact (pe_callG ih hrr hG (by rfl) T.g__law_fresh T.F__law_fresh.kp T.B__law_fresh (pa_cons (pv 1) pa_nil))))))
  pss_nil)
 (pss_cons (ps_if (pt_val (pe_callB call_isi (by rfl) T.z_isinstance bt_isinstance (pa_cons (pv 0) (pa_cons (pe_bltn (v := .ty "tuple") (by rfl) T.z_tuple bt_tuple rfl) pa_nil))))
  (pss_one (ps_ret (pe_callTy call_tuple_of (by rfl) T.z_tuple bt_tuple (pa_cons (pe_lc (own := [("item", 1)]) (g := (gName 1)) (tt := tYes) (te := (tCallD (spD K 1 (f__law_fresh n)) (tCons (tVar 1) tNil))) rfl sc__law_fresh.nd (pi_seq (pv 0)) (blkOk_by (own := [("item", 1)]) (N := N__law_fresh) (sc := defScope s__law_fresh) (by decide +kernel)) (fun _ _ _ _ _ => by exact (pg_name (i := 1) sc__law_fresh.nd rfl (Or.inl rfl))) (fun _ _ _ _ _ => by exact pts_nil) (fun _ _ _ _ _ => by exact (pe_callG ih hrr hG (by rfl) T.g__law_fresh T.F__law_fresh.kp T.B__law_fresh (pa_cons (pv 1) pa_nil)))) pa_nil))))
  pss_nil)
 (pss_one (ps_ret (pv 0))))), ?_⟩
    exact (sok_seq (sok_if (tok_val (eok_isi .list (eok_var 0)))
  (sok_ret (eok_lc (iok_seq (eok_var 0)) (gok_name 1) tok_yes (eok_fn (aok_cons (eok_var 1) aok_nil) (an_cons an_nil)) (by decide)))
  sok_pass)
 (sok_seq (sok_if (tok_val (eok_isi .tuple (eok_var 0)))
  (sok_ret (eok_callB cr_tuple (aok_cons (eok_lc (iok_seq (eok_var 0)) (gok_name 1) tok_yes (eok_fn (aok_cons (eok_var 1) aok_nil) (an_cons an_nil)) (by decide)) aok_nil)))
  sok_pass)
 (sok_ret (eok_var 0))))
end
section
variable {P : Program} {w : World} {K : PySem.W.Frag} {mg : Str → Option Value} {base : Heap}
theorem ok__law_square_fits (T : Top P K mg) : FnG P w K mg base 2 T.a__law_square_fits T.fd__law_square_fits ["kind", "moves", "h"] (spD K 3 f__law_square_fits) := by
  unfold f__law_square_fits b__law_square_fits
  refine fnG_data T.F__law_square_fits sc__law_square_fits rfl rfl fun cdv A outer s H hr hG => ?_
  refine ⟨_, (pss_cons (ps_asg (pv 2) (pg_tup rfl (pgs_cons (pg_name (i := 3) sc__law_square_fits.nd rfl (Or.inl rfl)) (pgs_cons (pg_name (i := 4) sc__law_square_fits.nd rfl (Or.inl rfl)) (pgs_cons (pg_name (i := 5) sc__law_square_fits.nd rfl (Or.inl rfl)) (pgs_cons (pg_name (i := 6) sc__law_square_fits.nd rfl (Or.inl rfl)) pgs_nil))))))
 (pss_cons (ps_set (i := 7) sc__law_square_fits.nd rfl (Or.inl rfl) (pe_tup (pa_cons (pv 6) (pa_cons (pe_un un_neg (pv 4)) (pa_cons (pe_un un_neg (pv 5)) (pa_cons (pv 3) pa_nil))))))
 (pss_cons (ps_for PassesOwn.never rfl (pi_seq (pv 1)) (pg_name (i := 8) sc__law_square_fits.nd rfl (Or.inl rfl))
  (pss_one (ps_if (pt_not (pt_val (pe_callG (ok__law_keeps T) (hr.mono (by omega)) hG (by rfl) T.g__law_keeps T.F__law_keeps.kp T.B__law_keeps (pa_cons (pv 0) (pa_cons (pe_callG (ok__law_times T) (hr.mono (by omega)) hG (by rfl) T.g__law_times T.F__law_times.kp T.B__law_times (pa_cons (pe_callG (ok__law_times T) (hr.mono (by omega)) hG (by rfl) T.g__law_times T.F__law_times.kp T.B__law_times (pa_cons (pv 2) (pa_cons (pv 8) pa_nil))) (pa_cons (pv 7) pa_nil))) pa_nil)))))
  (pss_one (ps_ret pe_bl))
  pss_nil)))
 (pss_one (ps_ret pe_bl))))), ?_⟩
  exact (sok_seq (sok_unp (gok_tup (gsok_cons (gok_name 3) (gsok_cons (gok_name 4) (gsok_cons (gok_name 5) (gsok_cons (gok_name 6) gsok_nil)))) (gs_len (gs_len (gs_len (gs_len gs_len0 _) _) _) _)) (eok_var 2))
 (sok_seq (sok_set 7 (eok_tup (aok_cons (eok_var 6) (aok_cons (eok_un r1_neg (eok_var 4)) (aok_cons (eok_un r1_neg (eok_var 5)) (aok_cons (eok_var 3) aok_nil))))))
 (sok_seq (sok_fo [8] (sok_pre [8] (sok_for (iok_seq (eok_var 1)) (gok_name 8)
  (sok_fo [8] (sok_if (tok_not (tok_val (eok_fn (aok_cons (eok_var 0) (aok_cons (eok_fn (aok_cons (eok_fn (aok_cons (eok_var 2) (aok_cons (eok_var 8) aok_nil)) (an_cons (an_cons an_nil))) (aok_cons (eok_var 7) aok_nil)) (an_cons (an_cons an_nil))) aok_nil)) (an_cons (an_cons an_nil)))))
  (sok_ret (eok_bool false))
  sok_pass)))))
 (sok_ret (eok_bool true)))))
end
end Lk77
set_option maxRecDepth 100000
set_option maxHeartbeats 4000000
namespace Lk77
open PySem PySem.Spec PyProof.Rows L2 F3
section
variable {P : Program} {w : World} {K : PySem.W.Frag} {mg : Str → Option Value} {base : Heap}
theorem ok__law_right_standard (T : Top P K mg) : FnG P w K mg base 3 T.a__law_right_standard T.fd__law_right_standard ["moves", "kind", "move"] (spD K 3 f__law_right_standard) := by
  unfold f__law_right_standard b__law_right_standard
  refine fnG_data T.F__law_right_standard sc__law_right_standard rfl rfl fun cdv A outer s H hr hG => ?_
  refine ⟨_, (pss_cons (ps_if (PW.pt (pw_or (pt_not (pt_val (pe_callB call_isi (by rfl) T.z_isinstance bt_isinstance (pa_cons (pv 1) (pa_cons (pe_bltn (v := .ty "str") (by rfl) T.z_str bt_str rfl) pa_nil))))) (pw_or1 (pt_cmpR (op_notInA (ru65 hr)) (pv 1) (pe_lst (pa_cons pe_str (pa_cons pe_str pa_nil))) (by rfl)))))
  (pss_one (ps_ret pe_bl))
  pss_nil)
 (pss_cons (ps_if (PW.pt (pw_or (pt_not (pt_val (pe_callG (ok__law_is_tuple T) (hr.mono (by omega)) hG (by rfl) T.g__law_is_tuple T.F__law_is_tuple.kp T.B__law_is_tuple (pa_cons (pv 2) (pa_cons pe_int pa_nil))))) (pw_or (pt_cmpR (op_neA hr.units) (pe_ix ix_seq (pv 2) pe_int (fun _ _ => rfl)) pe_int (nomark _)) (pw_or (pt_cmpR (op_neA hr.units) (pe_ix ix_seq (pv 2) pe_int (fun _ _ => rfl)) pe_int (nomark _)) (pw_or1 (pt_cmpR (op_neA hr.units) (pe_op op_sub (pe_op op_mulW (pe_ix ix_seq (pv 2) pe_int (fun _ _ => rfl)) (pe_ix ix_seq (pv 2) pe_int (fun _ _ => rfl))) (pe_op op_mulW (pe_ix ix_seq (pv 2) pe_int (fun _ _ => rfl)) (pe_ix ix_seq (pv 2) pe_int (fun _ _ => rfl)))) pe_int (nomark _)))))))
  (pss_one (ps_ret pe_bl))
  pss_nil)
 (pss_one (ps_ret (pe_callG (ok__law_square_fits T) (hr.mono (by omega)) hG (by rfl) T.g__law_square_fits T.F__law_square_fits.kp T.B__law_square_fits (pa_cons (pv 1) (pa_cons (pv 0) (pa_cons (pe_slice sl_2 (pv 2) po_none (po_some pe_int)) pa_nil)))))))), ?_⟩
  exact (sok_seq (sok_if (tok_or (tok_not (tok_val (eok_isi .str (eok_var 1)))) (tok_test (eok_op (r2_in true) (eok_var 1) (eok_lst (aok_cons (eok_str "square") (aok_cons (eok_str "hexagon") aok_nil))))))
  (sok_ret (eok_bool false))
  sok_pass)
 (sok_seq (sok_if (tok_or (tok_not (tok_val (eok_fn (aok_cons (eok_var 2) (aok_cons (eok_int 6) aok_nil)) (an_cons (an_cons an_nil))))) (tok_or (tok_test (eok_op r2_ne (eok_op r2_ix (eok_var 2) (eok_int 4)) (eok_int 0))) (tok_or (tok_test (eok_op r2_ne (eok_op r2_ix (eok_var 2) (eok_int 5)) (eok_int 0))) (tok_test (eok_op r2_ne (eok_op r2_sub (eok_op r2_mulI (eok_op r2_ix (eok_var 2) (eok_int 0)) (eok_op r2_ix (eok_var 2) (eok_int 3))) (eok_op r2_mulI (eok_op r2_ix (eok_var 2) (eok_int 1)) (eok_op r2_ix (eok_var 2) (eok_int 2)))) (eok_int 1))))))
  (sok_ret (eok_bool false))
  sok_pass)
 (sok_ret (eok_fn (aok_cons (eok_var 1) (aok_cons (eok_var 0) (aok_cons (eok_sl (eok_var 2) ook_no (ook_is (eok_int 4))) aok_nil))) (an_cons (an_cons (an_cons an_nil)))))))
end
section
variable {P : Program} {w : World} {K : PySem.W.Frag} {mg : Str → Option Value} {base : Heap}
theorem ok__law_judged (T : Top P K mg) : FnG P w K mg base 27 T.a__law_judged T.fd__law_judged ["turns", "pairs"] (spD K 2 f__law_judged) := by
  unfold f__law_judged b__law_judged
  refine fnG_data T.F__law_judged sc__law_judged rfl rfl fun cdv A outer s H hr hG => ?_
  refine ⟨_, (pss_cons (ps_setLc (i := 2) (own := [("turn", 7)]) (g := (gName 7)) (tt := tYes) (te := (tCallD (spD K 1 f__law_plain) (tCons (tVar 7) tNil))) rfl sc__law_judged.nd rfl rfl (sw_true rfl rfl rfl (by decide +kernel)) (pi_seq (pv 0)) (blkOk_by (own := [("turn", 7)]) (N := N__law_judged) (sc := defScope s__law_judged) (by decide +kernel)) (fun _ _ _ _ _ => by exact (pg_name (i := 7) sc__law_judged.nd rfl (Or.inl rfl))) (fun _ _ _ _ _ => by exact pts_nil) (fun _ _ _ _ _ => by exact (pe_callG (ok__law_plain T) (hr.mono (by omega)) hG (by rfl) T.g__law_plain T.F__law_plain.kp T.B__law_plain (pa_cons (pv 7) pa_nil))))
 (pss_cons (ps_for PassesOwn.never rfl (pi_seq (pv 1)) (pg_tup rfl (pgs_cons (pg_name (i := 3) sc__law_judged.nd rfl (Or.inl rfl)) (pgs_cons (pg_name (i := 4) sc__law_judged.nd rfl (Or.inl rfl)) pgs_nil)))
  (pss_cons (ps_set (i := 5) sc__law_judged.nd rfl (Or.inl rfl) (pe_lst (pa_cons (pe_callTy call_list_of (by rfl) T.z_list bt_list (pa_cons (pv 2) pa_nil)) (pa_cons (pe_callG (ok__law_fresh T 24) (hr.mono (by omega)) hG (by rfl) T.g__law_fresh T.F__law_fresh.kp T.B__law_fresh (pa_cons (pv 3) pa_nil)) (pa_cons (pe_callG (ok__law_fresh T 24) (hr.mono (by omega)) hG (by rfl) T.g__law_fresh T.F__law_fresh.kp T.B__law_fresh (pa_cons (pv 4) pa_nil)) pa_nil)))))
 (pss_cons (ps_set (i := 6) sc__law_judged.nd rfl (Or.inl rfl) (pe_callG (ok_shows_standard T) (hr.mono (by omega)) hG (by rfl) T.g_shows_standard T.F_shows_standard.kp T.B_shows_standard (pa_cons (pe_ix ix_seq (pv 5) pe_int (fun _ _ => rfl)) (pa_cons (pe_ix ix_seq (pv 5) pe_int (fun _ _ => rfl)) (pa_cons (pe_ix ix_seq (pv 5) pe_int (fun _ _ => rfl)) pa_nil)))))
 (pss_cons (ps_if (pt_cmpR (op_neA hr.units) (pe_callB (call_repr hG (ru66 hr)) (by rfl) T.z_repr bt_repr (pa_cons (pv 5) pa_nil)) (pe_callB (call_repr hG (ru66 hr)) (by rfl) T.z_repr bt_repr (pa_cons (pe_lst (pa_cons (pv 2) (pa_cons (pv 3) (pa_cons (pv 4) pa_nil)))) pa_nil)) (nomark _))
  (pss_one (ps_ret pe_bl))
  pss_nil)
 (pss_one (ps_if (pt_not (pt_val (pe_callG (ok__law_same T 24) (hr.mono (by omega)) hG (by rfl) T.g__law_same T.F__law_same.kp T.B__law_same (pa_cons (pv 6) (pa_cons (pe_callG (ok__law_right_standard T) (hr.mono (by omega)) hG (by rfl) T.g__law_right_standard T.F__law_right_standard.kp T.B__law_right_standard (pa_cons (pv 0) (pa_cons (pv 3) (pa_cons (pv 4) pa_nil)))) pa_nil)))))
  (pss_one (ps_ret pe_bl))
  pss_nil))))))
 (pss_one (ps_ret pe_bl)))), ?_⟩
  exact (sok_seq (sok_set 2 (eok_lc (iok_seq (eok_var 0)) (gok_name 7) tok_yes (eok_fn (aok_cons (eok_var 7) aok_nil) (an_cons an_nil)) (by decide)))
 (sok_seq (sok_fo [3, 4, 5, 6] (sok_pre [3, 4, 5, 6] (sok_for (iok_seq (eok_var 1)) (gok_tup (gsok_cons (gok_name 3) (gsok_cons (gok_name 4) gsok_nil)) (gs_len (gs_len gs_len0 _) _))
  (sok_fo [3, 4, 5, 6] (sok_seq (sok_set 5 (eok_lst (aok_cons (eok_callB cr_list (aok_cons (eok_var 2) aok_nil)) (aok_cons (eok_fn (aok_cons (eok_var 3) aok_nil) (an_cons an_nil)) (aok_cons (eok_fn (aok_cons (eok_var 4) aok_nil) (an_cons an_nil)) aok_nil)))))
 (sok_seq (sok_set 6 (eok_fn (aok_cons (eok_op r2_ix (eok_var 5) (eok_int 0)) (aok_cons (eok_op r2_ix (eok_var 5) (eok_int 1)) (aok_cons (eok_op r2_ix (eok_var 5) (eok_int 2)) aok_nil))) (an_cons (an_cons (an_cons an_nil)))))
 (sok_seq (sok_frz [2] (sok_if (tok_test (eok_op r2_ne (eok_callB cr_repr (aok_cons (eok_var 5) aok_nil)) (eok_callB cr_repr (aok_cons (eok_lst (aok_cons (eok_var 2) (aok_cons (eok_var 3) (aok_cons (eok_var 4) aok_nil)))) aok_nil))))
  (sok_ret (eok_bool false))
  sok_pass))
 (sok_if (tok_not (tok_val (eok_fn (aok_cons (eok_var 6) (aok_cons (eok_fn (aok_cons (eok_var 0) (aok_cons (eok_var 3) (aok_cons (eok_var 4) aok_nil))) (an_cons (an_cons (an_cons an_nil)))) aok_nil)) (an_cons (an_cons an_nil)))))
  (sok_ret (eok_bool false))
  sok_pass))))))))
 (sok_ret (eok_bool true))))
end
section
variable {P : Program} {w : World} {K : PySem.W.Frag} {mg : Str → Option Value} {base : Heap}
theorem ok__law_told_two (T : Top P K mg) : FnG P w K mg base 27 T.a__law_told_two T.fd__law_told_two ["turns"] (spD K 1 f__law_told_two) := by
  unfold f__law_told_two b__law_told_two
  refine fnG_data T.F__law_told_two sc__law_told_two rfl rfl fun cdv A outer s H hr hG => ?_
  refine ⟨_, (pss_cons (ps_setLc (i := 1) (own := [("turn", 4)]) (g := (gName 4)) (tt := tYes) (te := (tCallD (spD K 1 f__law_plain) (tCons (tVar 4) tNil))) rfl sc__law_told_two.nd rfl rfl (sw_true rfl rfl rfl (by decide +kernel)) (pi_seq (pv 0)) (blkOk_by (own := [("turn", 4)]) (N := N__law_told_two) (sc := defScope s__law_told_two) (by decide +kernel)) (fun _ _ _ _ _ => by exact (pg_name (i := 4) sc__law_told_two.nd rfl (Or.inl rfl))) (fun _ _ _ _ _ => by exact pts_nil) (fun _ _ _ _ _ => by exact (pe_callG (ok__law_plain T) (hr.mono (by omega)) hG (by rfl) T.g__law_plain T.F__law_plain.kp T.B__law_plain (pa_cons (pv 4) pa_nil))))
 (pss_cons (ps_set (i := 2) sc__law_told_two.nd rfl (Or.inl rfl) (pe_callG (ok_standard_group T) (hr.mono (by omega)) hG (by rfl) T.g_standard_group T.F_standard_group.kp T.B_standard_group (pa_cons (pv 1) pa_nil)))
 (pss_cons (ps_if (PW.pt (pw_or (pt_cmpR (op_neA hr.units) (pv 1) (pe_lc (own := [("turn", 4)]) (g := (gName 4)) (tt := tYes) (te := (tCallD (spD K 1 f__law_plain) (tCons (tVar 4) tNil))) rfl sc__law_told_two.nd (pi_seq (pv 0)) (blkOk_by (own := [("turn", 4)]) (N := N__law_told_two) (sc := defScope s__law_told_two) (by decide +kernel)) (fun _ _ _ _ _ => by exact (pg_name (i := 4) sc__law_told_two.nd rfl (Or.inl rfl))) (fun _ _ _ _ _ => by exact pts_nil) (fun _ _ _ _ _ => by exact (pe_callG (ok__law_plain T) (hr.mono (by omega)) hG (by rfl) T.g__law_plain T.F__law_plain.kp T.B__law_plain (pa_cons (pv 4) pa_nil)))) (nomark _)) (pw_or (pt_not (pt_val (pe_callB call_isi (by rfl) T.z_isinstance bt_isinstance (pa_cons (pv 2) (pa_cons (pe_bltn (v := .ty "tuple") (by rfl) T.z_tuple bt_tuple rfl) pa_nil))))) (pw_or1 (pt_cmpR (op_neA hr.units) (pe_callB call_lenA (by rfl) T.z_len bt_len (pa_cons (pv 2) pa_nil)) pe_int (nomark _))))))
  (pss_one (ps_ret pe_bl))
  pss_nil)
 (pss_cons (ps_set (i := 3) sc__law_told_two.nd rfl (Or.inl rfl) pe_str)
 (pss_cons (ps_if (pt_cmpR (op_eqA hr.units) (pe_op op_modN (pe_callB call_lenA (by rfl) T.z_len bt_len (pa_cons (pv 0) pa_nil)) pe_int) pe_int (nomark _))
  (pss_one (ps_set (i := 3) sc__law_told_two.nd rfl (Or.inl rfl) pe_str))
  pss_nil)
 (pss_cons (ps_if (PW.pt (pw_or (pt_not (pt_val (pe_callG (ok__law_same T 24) (hr.mono (by omega)) hG (by rfl) T.g__law_same T.F__law_same.kp T.B__law_same (pa_cons (pe_ix ix_seq (pv 2) pe_int (fun _ _ => rfl)) (pa_cons (pv 3) pa_nil))))) (pw_or1 (pt_not (pt_val (pe_callG (ok__law_right_standard T) (hr.mono (by omega)) hG (by rfl) T.g__law_right_standard T.F__law_right_standard.kp T.B__law_right_standard (pa_cons (pv 0) (pa_cons (pe_ix ix_seq (pv 2) pe_int (fun _ _ => rfl)) (pa_cons (pe_ix ix_seq (pv 2) pe_int (fun _ _ => rfl)) pa_nil)))))))))
  (pss_one (ps_ret pe_bl))
  pss_nil)
 (pss_one (ps_ret (pe_cmpR op_isA (pe_callG (ok_shows_standard T) (hr.mono (by omega)) hG (by rfl) T.g_shows_standard T.F_shows_standard.kp T.B_shows_standard (pa_cons (pv 1) (pa_cons (pe_ix ix_seq (pv 2) pe_int (fun _ _ => rfl)) (pa_cons (pe_ix ix_seq (pv 2) pe_int (fun _ _ => rfl)) pa_nil)))) pe_bl (nomark _)))))))))), ?_⟩
  exact (sok_seq (sok_set 1 (eok_lc (iok_seq (eok_var 0)) (gok_name 4) tok_yes (eok_fn (aok_cons (eok_var 4) aok_nil) (an_cons an_nil)) (by decide)))
 (sok_seq (sok_frz [1] (sok_set 2 (eok_fn (aok_cons (eok_var 1) aok_nil) (an_cons an_nil))))
 (sok_seq (sok_if (tok_or (tok_test (eok_op r2_ne (eok_var 1) (eok_lc (iok_seq (eok_var 0)) (gok_name 4) tok_yes (eok_fn (aok_cons (eok_var 4) aok_nil) (an_cons an_nil)) (by decide)))) (tok_or (tok_not (tok_val (eok_isi .tuple (eok_var 2)))) (tok_test (eok_op r2_ne (eok_callB F3.cr_len (aok_cons (eok_var 2) aok_nil)) (eok_int 2)))))
  (sok_ret (eok_bool false))
  sok_pass)
 (sok_seq (sok_set 3 (eok_str "square"))
 (sok_seq (sok_if (tok_test (eok_op r2_eq (eok_op r2_mod (eok_callB F3.cr_len (aok_cons (eok_var 0) aok_nil)) (eok_int 3)) (eok_int 0)))
  (sok_set 3 (eok_str "hexagon"))
  sok_pass)
 (sok_seq (sok_if (tok_or (tok_not (tok_val (eok_fn (aok_cons (eok_op r2_ix (eok_var 2) (eok_int 0)) (aok_cons (eok_var 3) aok_nil)) (an_cons (an_cons an_nil))))) (tok_not (tok_val (eok_fn (aok_cons (eok_var 0) (aok_cons (eok_op r2_ix (eok_var 2) (eok_int 0)) (aok_cons (eok_op r2_ix (eok_var 2) (eok_int 1)) aok_nil))) (an_cons (an_cons (an_cons an_nil)))))))
  (sok_ret (eok_bool false))
  sok_pass)
 (sok_frz [1] (sok_ret (eok_op r2_is (eok_fn (aok_cons (eok_var 1) (aok_cons (eok_op r2_ix (eok_var 2) (eok_int 0)) (aok_cons (eok_op r2_ix (eok_var 2) (eok_int 1)) aok_nil))) (an_cons (an_cons (an_cons an_nil)))) (eok_bool true))))))))))
end
section
variable {P : Program} {w : World} {K : PySem.W.Frag} {mg : Str → Option Value} {base : Heap}
theorem ok__law_pairs (T : Top P K mg) : FnG P w K mg base 3 T.a__law_pairs T.fd__law_pairs ["kind", "h", "at"] (spD K 3 f__law_pairs) := by
  unfold f__law_pairs b__law_pairs
  refine fnG_data T.F__law_pairs sc__law_pairs rfl rfl fun cdv A outer s H hr hG => ?_
  refine ⟨_, (pss_cons (ps_set (i := 3) sc__law_pairs.nd rfl (Or.inl rfl) (pe_callG (ok__law_plain T) (hr.mono (by omega)) hG (by rfl) T.g__law_plain T.F__law_plain.kp T.B__law_plain (pa_cons (pv 1) pa_nil)))
 (pss_cons (ps_set (i := 4) sc__law_pairs.nd rfl (Or.inl rfl) (pe_lst (pa_cons (pe_tup (pa_cons pe_str (pa_cons (pv 3) pa_nil))) (pa_cons (pe_tup (pa_cons pe_str (pa_cons (pv 3) pa_nil))) (pa_cons (pe_tup (pa_cons pe_str (pa_cons (pv 3) pa_nil))) (pa_cons (pe_tup (pa_cons (pv 0) (pa_cons (pe_callTy call_list_of (by rfl) T.z_list bt_list (pa_cons (pv 3) pa_nil)) pa_nil))) (pa_cons (pe_tup (pa_cons (pv 0) (pa_cons (pe_slice sl_2 (pv 3) po_none (po_some pe_int)) pa_nil))) (pa_cons (pe_tup (pa_cons (pv 0) (pa_cons (pe_op op_add4 (pv 3) (pe_tup (pa_cons pe_int pa_nil))) pa_nil))) (pa_cons (pe_tup (pa_cons pe_non (pa_cons (pv 3) pa_nil))) pa_nil)))))))))
 (pss_cons (ps_for PassesOwn.never rfl (pi_seq (pe_lst (pa_cons (pe_op op_add4 (pe_ix ix_seq (pv 3) (pv 2) (fun _ _ => rfl)) pe_int) (pa_cons (pe_op op_sub (pe_ix ix_seq (pv 3) (pv 2) (fun _ _ => rfl)) pe_int) (pa_cons (pe_un un_neg (pe_ix ix_seq (pv 3) (pv 2) (fun _ _ => rfl))) (pa_cons pe_bl (pa_cons pe_bl (pa_cons pe_non (pa_cons (pe_callTy call_strA (by rfl) T.z_str bt_str (pa_cons (pe_ix ix_seq (pv 3) (pv 2) (fun _ _ => rfl)) pa_nil)) (pa_cons (pe_tup (pa_cons (pe_ix ix_seq (pv 3) (pv 2) (fun _ _ => rfl)) pa_nil)) pa_nil)))))))))) (pg_name (i := 5) sc__law_pairs.nd rfl (Or.inl rfl))
  (pss_one (ps_expr (pe_bm PySem.F.plainAttrs_list PySem.F.slot_list_append PySem.F.type_list_append mt_append (pv 4) (pa_cons (pe_tup (pa_cons (pv 0) (pa_cons (pe_op op_add4 (pe_op op_add4 (pe_slice sl_2 (pv 3) po_none (po_some (pv 2))) (pe_tup (pa_cons (pv 5) pa_nil))) (pe_slice sl_2 (pv 3) (po_some (pe_op op_add4 (pv 2) pe_int)) po_none)) pa_nil))) pa_nil)))))
 (pss_cons (ps_asg (pv 3) (pg_tup rfl (pgs_cons (pg_name (i := 6) sc__law_pairs.nd rfl (Or.inl rfl)) (pgs_cons (pg_name (i := 7) sc__law_pairs.nd rfl (Or.inl rfl)) (pgs_cons (pg_name (i := 8) sc__law_pairs.nd rfl (Or.inl rfl)) (pgs_cons (pg_name (i := 9) sc__law_pairs.nd rfl (Or.inl rfl)) (pgs_cons (pg_name (i := 10) sc__law_pairs.nd rfl (Or.inl rfl)) (pgs_cons (pg_name (i := 11) sc__law_pairs.nd rfl (Or.inl rfl)) pgs_nil))))))))
 (pss_cons (ps_for PassesOwn.never rfl (pi_seq (pe_lst (pa_cons (pe_tup (pa_cons (pv 8) (pa_cons (pv 9) (pa_cons (pv 6) (pa_cons (pv 7) (pa_cons pe_int (pa_cons pe_int pa_nil))))))) (pa_cons (pe_tup (pa_cons (pv 6) (pa_cons (pv 7) (pa_cons (pv 8) (pa_cons (pv 9) (pa_cons pe_int (pa_cons pe_int pa_nil))))))) (pa_cons (pe_tup (pa_cons (pv 6) (pa_cons (pv 7) (pa_cons (pv 8) (pa_cons (pv 9) (pa_cons pe_int (pa_cons (pe_un un_neg pe_int) pa_nil))))))) (pa_cons (pe_tup (pa_cons (pe_op op_mulW pe_int (pv 6)) (pa_cons (pv 7) (pa_cons (pe_op op_mulW pe_int (pv 8)) (pa_cons (pv 9) (pa_cons pe_int (pa_cons pe_int pa_nil))))))) (pa_cons (pe_tup (pa_cons (pv 9) (pa_cons (pe_un un_neg (pv 7)) (pa_cons (pe_un un_neg (pv 8)) (pa_cons (pv 6) (pa_cons pe_int (pa_cons pe_int pa_nil))))))) pa_nil))))))) (pg_name (i := 5) sc__law_pairs.nd rfl (Or.inl rfl))
  (pss_one (ps_expr (pe_bm PySem.F.plainAttrs_list PySem.F.slot_list_append PySem.F.type_list_append mt_append (pv 4) (pa_cons (pe_tup (pa_cons (pv 0) (pa_cons (pv 5) pa_nil))) pa_nil)))))
 (pss_cons (ps_for PassesOwn.never rfl (pi_seq (pe_lst (pa_cons (pe_tup (pa_cons (pe_un un_neg (pv 6)) (pa_cons (pe_un un_neg (pv 7)) (pa_cons (pv 8) (pa_cons (pv 9) (pa_cons pe_int (pa_cons pe_int pa_nil))))))) (pa_cons (pe_tup (pa_cons (pv 8) (pa_cons (pv 9) (pa_cons (pe_un un_neg (pv 6)) (pa_cons (pe_un un_neg (pv 7)) (pa_cons pe_int (pa_cons pe_int pa_nil))))))) (pa_cons (pe_tup (pa_cons (pv 6) (pa_cons (pv 7) (pa_cons (pv 8) (pa_cons (pv 9) (pa_cons pe_bl (pa_cons pe_int pa_nil))))))) (pa_cons (pe_tup (pa_cons (pe_op op_add4 (pv 6) (pv 8)) (pa_cons (pe_op op_add4 (pv 7) (pv 9)) (pa_cons (pv 8) (pa_cons (pv 9) (pa_cons pe_int (pa_cons pe_int pa_nil))))))) (pa_cons (pe_tup (pa_cons (pv 6) (pa_cons (pv 7) (pa_cons (pe_op op_add4 (pv 8) (pv 6)) (pa_cons (pe_op op_add4 (pv 9) (pv 7)) (pa_cons pe_int (pa_cons pe_int pa_nil))))))) pa_nil))))))) (pg_name (i := 5) sc__law_pairs.nd rfl (Or.inl rfl))
  (pss_one (ps_expr (pe_bm PySem.F.plainAttrs_list PySem.F.slot_list_append PySem.F.type_list_append mt_append (pv 4) (pa_cons (pe_tup (pa_cons (pv 0) (pa_cons (pv 5) pa_nil))) pa_nil)))))
 (pss_cons (ps_for PassesOwn.never rfl (pi_seq (pe_op op_add4 (pe_callG (ok__law_keeping T) (hr.mono (by omega)) hG (by rfl) T.g__law_keeping T.F__law_keeping.kp T.B__law_keeping (pa_cons pe_str pa_nil)) (pe_callG (ok__law_keeping T) (hr.mono (by omega)) hG (by rfl) T.g__law_keeping T.F__law_keeping.kp T.B__law_keeping (pa_cons pe_str pa_nil)))) (pg_name (i := 12) sc__law_pairs.nd rfl (Or.inl rfl))
  (pss_cons (ps_expr (pe_bm PySem.F.plainAttrs_list PySem.F.slot_list_append PySem.F.type_list_append mt_append (pv 4) (pa_cons (pe_tup (pa_cons pe_str (pa_cons (pe_callG (ok__law_plain T) (hr.mono (by omega)) hG (by rfl) T.g__law_plain T.F__law_plain.kp T.B__law_plain (pa_cons (pe_callG (ok__law_times T) (hr.mono (by omega)) hG (by rfl) T.g__law_times T.F__law_times.kp T.B__law_times (pa_cons (pv 12) (pa_cons (pv 1) pa_nil))) pa_nil)) pa_nil))) pa_nil)))
 (pss_one (ps_expr (pe_bm PySem.F.plainAttrs_list PySem.F.slot_list_append PySem.F.type_list_append mt_append (pv 4) (pa_cons (pe_tup (pa_cons pe_str (pa_cons (pe_callG (ok__law_plain T) (hr.mono (by omega)) hG (by rfl) T.g__law_plain T.F__law_plain.kp T.B__law_plain (pa_cons (pe_callG (ok__law_times T) (hr.mono (by omega)) hG (by rfl) T.g__law_times T.F__law_times.kp T.B__law_times (pa_cons (pv 12) (pa_cons (pv 1) pa_nil))) pa_nil)) pa_nil))) pa_nil))))))
 (pss_cons (ps_set (i := 4) sc__law_pairs.nd rfl (Or.inl rfl) (pe_op op_add4 (pv 4) (pe_lst (pa_cons (pe_tup (pa_cons (pe_lst (pa_cons (pv 0) pa_nil)) (pa_cons (pv 3) pa_nil))) (pa_cons (pe_tup (pa_cons (pv 0) (pa_cons pe_non pa_nil))) (pa_cons (pe_tup (pa_cons (pv 0) (pa_cons pe_int pa_nil))) (pa_cons (pe_tup (pa_cons pe_str (pa_cons (pv 3) pa_nil))) (pa_cons (pe_tup (pa_cons pe_bl (pa_cons (pv 3) pa_nil))) (pa_cons (pe_tup (pa_cons pe_int (pa_cons (pv 3) pa_nil))) (pa_cons (pe_tup (pa_cons (pv 0) (pa_cons (pv 0) pa_nil))) (pa_cons (pe_tup (pa_cons pe_str (pa_cons (pv 3) pa_nil))) (pa_cons (pe_tup (pa_cons (pv 0) (pa_cons (pe_tup pa_nil) pa_nil))) pa_nil))))))))))))
 (pss_one (ps_ret (pe_op op_add4 (pv 4) (pe_lst (pa_cons (pe_tup (pa_cons pe_str (pa_cons (pe_tup (pa_cons pe_int (pa_cons pe_int (pa_cons pe_int (pa_cons pe_int (pa_cons pe_int (pa_cons pe_int pa_nil))))))) pa_nil))) (pa_cons (pe_tup (pa_cons pe_str (pa_cons (pe_tup (pa_cons pe_int (pa_cons pe_int (pa_cons pe_int (pa_cons pe_int (pa_cons pe_int (pa_cons pe_int pa_nil))))))) pa_nil))) (pa_cons (pe_tup (pa_cons (pe_tup (pa_cons (pv 0) pa_nil)) (pa_cons (pv 3) pa_nil))) (pa_cons (pe_tup (pa_cons (pv 0) (pa_cons (pe_tup (pa_cons (pv 3) pa_nil)) pa_nil))) (pa_cons (pe_tup (pa_cons pe_str (pa_cons (pv 3) pa_nil))) pa_nil))))))))))))))))), ?_⟩
  exact (sok_seq (sok_set 3 (eok_fn (aok_cons (eok_var 1) aok_nil) (an_cons an_nil)))
 (sok_seq (sok_set 4 (eok_lst (aok_cons (eok_tup (aok_cons (eok_str "square") (aok_cons (eok_var 3) aok_nil))) (aok_cons (eok_tup (aok_cons (eok_str "hexagon") (aok_cons (eok_var 3) aok_nil))) (aok_cons (eok_tup (aok_cons (eok_str "rest") (aok_cons (eok_var 3) aok_nil))) (aok_cons (eok_tup (aok_cons (eok_var 0) (aok_cons (eok_callB cr_list (aok_cons (eok_var 3) aok_nil)) aok_nil))) (aok_cons (eok_tup (aok_cons (eok_var 0) (aok_cons (eok_sl (eok_var 3) ook_no (ook_is (eok_int 4))) aok_nil))) (aok_cons (eok_tup (aok_cons (eok_var 0) (aok_cons (eok_op r2_add (eok_var 3) (eok_tup (aok_cons (eok_int 0) aok_nil))) aok_nil))) (aok_cons (eok_tup (aok_cons eok_none (aok_cons (eok_var 3) aok_nil))) aok_nil)))))))))
 (sok_seq (sok_fo [5] (sok_pre [5] (sok_for (iok_seq (eok_lst (aok_cons (eok_op r2_add (eok_op r2_ix (eok_var 3) (eok_var 2)) (eok_int 1)) (aok_cons (eok_op r2_sub (eok_op r2_ix (eok_var 3) (eok_var 2)) (eok_int 1)) (aok_cons (eok_un r1_neg (eok_op r2_ix (eok_var 3) (eok_var 2))) (aok_cons (eok_bool true) (aok_cons (eok_bool false) (aok_cons eok_none (aok_cons (eok_callB cr_str (aok_cons (eok_op r2_ix (eok_var 3) (eok_var 2)) aok_nil)) (aok_cons (eok_tup (aok_cons (eok_op r2_ix (eok_var 3) (eok_var 2)) aok_nil)) aok_nil)))))))))) (gok_name 5)
  (sok_fo [5] (sok_app 4 (eok_tup (aok_cons (eok_var 0) (aok_cons (eok_op r2_add (eok_op r2_add (eok_sl (eok_var 3) ook_no (ook_is (eok_var 2))) (eok_tup (aok_cons (eok_var 5) aok_nil))) (eok_sl (eok_var 3) (ook_is (eok_op r2_add (eok_var 2) (eok_int 1))) ook_no)) aok_nil))))))))
 (sok_seq (sok_unp (gok_tup (gsok_cons (gok_name 6) (gsok_cons (gok_name 7) (gsok_cons (gok_name 8) (gsok_cons (gok_name 9) (gsok_cons (gok_name 10) (gsok_cons (gok_name 11) gsok_nil)))))) (gs_len (gs_len (gs_len (gs_len (gs_len (gs_len gs_len0 _) _) _) _) _) _)) (eok_var 3))
 (sok_seq (sok_fo [5] (sok_pre [5] (sok_for (iok_seq (eok_lst (aok_cons (eok_tup (aok_cons (eok_var 8) (aok_cons (eok_var 9) (aok_cons (eok_var 6) (aok_cons (eok_var 7) (aok_cons (eok_int 0) (aok_cons (eok_int 0) aok_nil))))))) (aok_cons (eok_tup (aok_cons (eok_var 6) (aok_cons (eok_var 7) (aok_cons (eok_var 8) (aok_cons (eok_var 9) (aok_cons (eok_int 1) (aok_cons (eok_int 0) aok_nil))))))) (aok_cons (eok_tup (aok_cons (eok_var 6) (aok_cons (eok_var 7) (aok_cons (eok_var 8) (aok_cons (eok_var 9) (aok_cons (eok_int 0) (aok_cons (eok_un r1_neg (eok_int 1)) aok_nil))))))) (aok_cons (eok_tup (aok_cons (eok_op r2_mulI (eok_int 2) (eok_var 6)) (aok_cons (eok_var 7) (aok_cons (eok_op r2_mulI (eok_int 2) (eok_var 8)) (aok_cons (eok_var 9) (aok_cons (eok_int 0) (aok_cons (eok_int 0) aok_nil))))))) (aok_cons (eok_tup (aok_cons (eok_var 9) (aok_cons (eok_un r1_neg (eok_var 7)) (aok_cons (eok_un r1_neg (eok_var 8)) (aok_cons (eok_var 6) (aok_cons (eok_int 0) (aok_cons (eok_int 0) aok_nil))))))) aok_nil))))))) (gok_name 5)
  (sok_fo [5] (sok_app 4 (eok_tup (aok_cons (eok_var 0) (aok_cons (eok_var 5) aok_nil))))))))
 (sok_seq (sok_fo [5] (sok_pre [5] (sok_for (iok_seq (eok_lst (aok_cons (eok_tup (aok_cons (eok_un r1_neg (eok_var 6)) (aok_cons (eok_un r1_neg (eok_var 7)) (aok_cons (eok_var 8) (aok_cons (eok_var 9) (aok_cons (eok_int 0) (aok_cons (eok_int 0) aok_nil))))))) (aok_cons (eok_tup (aok_cons (eok_var 8) (aok_cons (eok_var 9) (aok_cons (eok_un r1_neg (eok_var 6)) (aok_cons (eok_un r1_neg (eok_var 7)) (aok_cons (eok_int 0) (aok_cons (eok_int 0) aok_nil))))))) (aok_cons (eok_tup (aok_cons (eok_var 6) (aok_cons (eok_var 7) (aok_cons (eok_var 8) (aok_cons (eok_var 9) (aok_cons (eok_bool false) (aok_cons (eok_int 0) aok_nil))))))) (aok_cons (eok_tup (aok_cons (eok_op r2_add (eok_var 6) (eok_var 8)) (aok_cons (eok_op r2_add (eok_var 7) (eok_var 9)) (aok_cons (eok_var 8) (aok_cons (eok_var 9) (aok_cons (eok_int 0) (aok_cons (eok_int 0) aok_nil))))))) (aok_cons (eok_tup (aok_cons (eok_var 6) (aok_cons (eok_var 7) (aok_cons (eok_op r2_add (eok_var 8) (eok_var 6)) (aok_cons (eok_op r2_add (eok_var 9) (eok_var 7)) (aok_cons (eok_int 0) (aok_cons (eok_int 0) aok_nil))))))) aok_nil))))))) (gok_name 5)
  (sok_fo [5] (sok_app 4 (eok_tup (aok_cons (eok_var 0) (aok_cons (eok_var 5) aok_nil))))))))
 (sok_seq (sok_fo [12] (sok_pre [12] (sok_for (iok_seq (eok_op r2_add (eok_fn (aok_cons (eok_str "square") aok_nil) (an_cons an_nil)) (eok_fn (aok_cons (eok_str "hexagon") aok_nil) (an_cons an_nil)))) (gok_name 12)
  (sok_fo [12] (sok_seq (sok_app 4 (eok_tup (aok_cons (eok_str "square") (aok_cons (eok_fn (aok_cons (eok_fn (aok_cons (eok_var 12) (aok_cons (eok_var 1) aok_nil)) (an_cons (an_cons an_nil))) aok_nil) (an_cons an_nil)) aok_nil))))
 (sok_app 4 (eok_tup (aok_cons (eok_str "hexagon") (aok_cons (eok_fn (aok_cons (eok_fn (aok_cons (eok_var 12) (aok_cons (eok_var 1) aok_nil)) (an_cons (an_cons an_nil))) aok_nil) (an_cons an_nil)) aok_nil)))))))))
 (sok_seq (sok_set 4 (eok_op r2_add (eok_var 4) (eok_lst (aok_cons (eok_tup (aok_cons (eok_lst (aok_cons (eok_var 0) aok_nil)) (aok_cons (eok_var 3) aok_nil))) (aok_cons (eok_tup (aok_cons (eok_var 0) (aok_cons eok_none aok_nil))) (aok_cons (eok_tup (aok_cons (eok_var 0) (aok_cons (eok_int 1) aok_nil))) (aok_cons (eok_tup (aok_cons (eok_str "") (aok_cons (eok_var 3) aok_nil))) (aok_cons (eok_tup (aok_cons (eok_bool true) (aok_cons (eok_var 3) aok_nil))) (aok_cons (eok_tup (aok_cons (eok_int 1) (aok_cons (eok_var 3) aok_nil))) (aok_cons (eok_tup (aok_cons (eok_var 0) (aok_cons (eok_var 0) aok_nil))) (aok_cons (eok_tup (aok_cons (eok_str "Square") (aok_cons (eok_var 3) aok_nil))) (aok_cons (eok_tup (aok_cons (eok_var 0) (aok_cons (eok_tup aok_nil) aok_nil))) aok_nil))))))))))))
 (sok_ret (eok_op r2_add (eok_var 4) (eok_lst (aok_cons (eok_tup (aok_cons (eok_str "square") (aok_cons (eok_tup (aok_cons (eok_int 1) (aok_cons (eok_int 0) (aok_cons (eok_int 0) (aok_cons (eok_int 1) (aok_cons (eok_int 0) (aok_cons (eok_int 0) aok_nil))))))) aok_nil))) (aok_cons (eok_tup (aok_cons (eok_str "hexagon") (aok_cons (eok_tup (aok_cons (eok_int 1) (aok_cons (eok_int 0) (aok_cons (eok_int 0) (aok_cons (eok_int 1) (aok_cons (eok_int 0) (aok_cons (eok_int 0) aok_nil))))))) aok_nil))) (aok_cons (eok_tup (aok_cons (eok_tup (aok_cons (eok_var 0) aok_nil)) (aok_cons (eok_var 3) aok_nil))) (aok_cons (eok_tup (aok_cons (eok_var 0) (aok_cons (eok_tup (aok_cons (eok_var 3) aok_nil)) aok_nil))) (aok_cons (eok_tup (aok_cons (eok_str "hexagon ") (aok_cons (eok_var 3) aok_nil))) aok_nil))))))))))))))))
end
section
variable {P : Program} {w : World} {K : PySem.W.Frag} {mg : Str → Option Value} {base : Heap}
theorem ok__law_part_two (T : Top P K mg) : FnG P w K mg base 28 T.a__law_part_two T.fd__law_part_two ["script"] (spD K 1 f__law_part_two) := by
  unfold f__law_part_two b__law_part_two
  refine fnG_data T.F__law_part_two sc__law_part_two rfl rfl fun cdv A outer s H hr hG => ?_
  refine ⟨_, (pss_cons (ps_set (i := 1) sc__law_part_two.nd rfl (Or.inl rfl) (pe_callG (ok__law_draws T) (hr.mono (by omega)) hG (by rfl) T.g__law_draws T.F__law_draws.kp T.B__law_draws (pa_cons (pv 0) (pa_cons pe_int pa_nil))))
 (pss_cons (ps_asg (pe_callG (ok__law_placed_moves T) (hr.mono (by omega)) hG (by rfl) T.g__law_placed_moves T.F__law_placed_moves.kp T.B__law_placed_moves (pa_cons (pv 1) (pa_cons pe_int pa_nil))) (pg_tup rfl (pgs_cons (pg_name (i := 2) sc__law_part_two.nd rfl (Or.inl rfl)) (pgs_cons (pg_name (i := 3) sc__law_part_two.nd rfl (Or.inr rfl)) (pgs_cons (pg_name (i := 4) sc__law_part_two.nd rfl (Or.inl rfl)) pgs_nil)))))
 (pss_cons (ps_set (i := 5) sc__law_part_two.nd rfl (Or.inl rfl) (pe_callB (call_sortD (ru66 hr)) (by rfl) T.z_sorted bt_sorted (pa_cons (pe_callG (ok__law_closed T) (hr.mono (by omega)) hG (by rfl) T.g__law_closed T.F__law_closed.kp T.B__law_closed (pa_cons (pv 4) pa_nil)) pa_nil)))
 (pss_cons (ps_set (i := 6) sc__law_part_two.nd rfl (Or.inl rfl) (pe_callG (toG (ok_group_of T) rfl) (hr.mono (by omega)) hG (by rfl) T.g_group_of T.F_group_of.kp T.B_group_of (pa_cons (pe_lc (own := [("move", 11)]) (g := (gName 11)) (tt := tYes) (te := (tCallD (spD K 1 f__law_plain) (tCons (tVar 11) tNil))) rfl sc__law_part_two.nd (pi_seq (pv 4)) (blkOk_by (own := [("move", 11)]) (N := N__law_part_two) (sc := defScope s__law_part_two) (by decide +kernel)) (fun _ _ _ _ _ => by exact (pg_name (i := 11) sc__law_part_two.nd rfl (Or.inl rfl))) (fun _ _ _ _ _ => by exact pts_nil) (fun _ _ _ _ _ => by exact (pe_callG (ok__law_plain T) (hr.mono (by omega)) hG (by rfl) T.g__law_plain T.F__law_plain.kp T.B__law_plain (pa_cons (pv 11) pa_nil)))) pa_nil)))
 (pss_cons (ps_if (PW.pt (pw_or (pt_not (pt_val (pe_callG (ok__law_same T 24) (hr.mono (by omega)) hG (by rfl) T.g__law_same T.F__law_same.kp T.B__law_same (pa_cons (pv 6) (pa_cons (pe_lc (own := [("turn", 12)]) (g := (gName 12)) (tt := tYes) (te := (tCallD (spD K 1 f__law_plain) (tCons (tVar 12) tNil))) rfl sc__law_part_two.nd (pi_seq (pv 5)) (blkOk_by (own := [("turn", 12)]) (N := N__law_part_two) (sc := defScope s__law_part_two) (by decide +kernel)) (fun _ _ _ _ _ => by exact (pg_name (i := 12) sc__law_part_two.nd rfl (Or.inl rfl))) (fun _ _ _ _ _ => by exact pts_nil) (fun _ _ _ _ _ => by exact (pe_callG (ok__law_plain T) (hr.mono (by omega)) hG (by rfl) T.g__law_plain T.F__law_plain.kp T.B__law_plain (pa_cons (pv 12) pa_nil)))) pa_nil))))) (pw_or1 (pt_not (pt_val (pe_callG (ok__law_told_two T) (hr.mono (by omega)) hG (by rfl) T.g__law_told_two T.F__law_told_two.kp T.B__law_told_two (pa_cons (pv 5) pa_nil)))))))
  (pss_one (ps_ret pe_bl))
  pss_nil)
 (pss_cons (ps_set (i := 7) sc__law_part_two.nd rfl (Or.inl rfl) (pe_tup (pa_cons (pe_ix ix_seq (pv 3) pe_int (fun _ _ => rfl)) (pa_cons (pe_un un_neg (pe_ix ix_seq (pv 3) pe_int (fun _ _ => rfl))) (pa_cons (pe_un un_neg (pe_ix ix_seq (pv 3) pe_int (fun _ _ => rfl))) (pa_cons (pe_ix ix_seq (pv 3) pe_int (fun _ _ => rfl)) pa_nil))))))
 (pss_cons (ps_if (PW.pt (pw_or (pt_not (pt_val (pe_callG (ok__law_right_standard T) (hr.mono (by omega)) hG (by rfl) T.g__law_right_standard T.F__law_right_standard.kp T.B__law_right_standard (pa_cons (pv 5) (pa_cons (pv 2) (pa_cons (pe_callG (ok__law_plain T) (hr.mono (by omega)) hG (by rfl) T.g__law_plain T.F__law_plain.kp T.B__law_plain (pa_cons (pv 7) pa_nil)) pa_nil)))))) (pw_or1 (pt_not (pt_val (pe_callG (ok__law_judged T) (hr.mono (by omega)) hG (by rfl) T.g__law_judged T.F__law_judged.kp T.B__law_judged (pa_cons (pv 5) (pa_cons (pe_slice3 (pe_callG (ok__law_pairs T) (hr.mono (by omega)) hG (by rfl) T.g__law_pairs T.F__law_pairs.kp T.B__law_pairs (pa_cons (pv 2) (pa_cons (pv 7) (pa_cons (pe_op op_modN (pe_ix ix_seq (pv 1) pe_int (fun _ _ => rfl)) pe_int) pa_nil)))) (po_some (pe_op op_modN (pe_ix ix_seq (pv 1) pe_int (fun _ _ => rfl)) pe_int)) po_none (po_some pe_int)) pa_nil))))))))
  (pss_one (ps_ret pe_bl))
  pss_nil)
 (pss_cons (ps_for PassesOwn.never rfl (pi_seq (pe_lst (pa_cons (pe_ix ix_seq (pe_lst (pa_cons pe_str (pa_cons pe_str pa_nil))) (pe_op op_modN (pe_op op_fdivA (pe_ix ix_seq (pv 1) pe_int (fun _ _ => rfl)) pe_int) pe_int) (fun _ _ => rfl)) pa_nil))) (pg_name (i := 8) sc__law_part_two.nd rfl (Or.inl rfl))
  (pss_cons (ps_set (i := 9) sc__law_part_two.nd rfl (Or.inl rfl) (pe_callB (call_sortD (ru66 hr)) (by rfl) T.z_sorted bt_sorted (pa_cons (pe_lc (own := [("turn", 12)]) (g := (gName 12)) (tt := tYes) (te := (tCallD (spD K 2 f__law_by) (tCons (tVar 3) (tCons (tVar 12) tNil)))) rfl sc__law_part_two.nd (pi_seq (pe_callG (ok__law_keeping T) (hr.mono (by omega)) hG (by rfl) T.g__law_keeping T.F__law_keeping.kp T.B__law_keeping (pa_cons (pv 8) pa_nil))) (blkOk_by (own := [("turn", 12)]) (N := N__law_part_two) (sc := defScope s__law_part_two) (by decide +kernel)) (fun _ _ _ _ _ => by exact (pg_name (i := 12) sc__law_part_two.nd rfl (Or.inl rfl))) (fun _ _ _ _ _ => by exact pts_nil) (fun _ _ _ _ _ => by exact (pe_callG (ok__law_by T) (hr.mono (by omega)) hG (by rfl) T.g__law_by T.F__law_by.kp T.B__law_by (pa_cons (pv 3) (pa_cons (pv 12) pa_nil))))) pa_nil)))
 (pss_one (ps_if (PW.pt (pw_or (pt_not (pt_val (pe_callG (ok__law_told_two T) (hr.mono (by omega)) hG (by rfl) T.g__law_told_two T.F__law_told_two.kp T.B__law_told_two (pa_cons (pv 9) pa_nil)))) (pw_or1 (pt_not (pt_val (pe_callG (ok__law_judged T) (hr.mono (by omega)) hG (by rfl) T.g__law_judged T.F__law_judged.kp T.B__law_judged (pa_cons (pv 9) (pa_cons (pe_lst (pa_cons (pe_tup (pa_cons pe_str (pa_cons (pe_callG (ok__law_plain T) (hr.mono (by omega)) hG (by rfl) T.g__law_plain T.F__law_plain.kp T.B__law_plain (pa_cons (pv 7) pa_nil)) pa_nil))) (pa_cons (pe_tup (pa_cons pe_str (pa_cons (pe_callG (ok__law_plain T) (hr.mono (by omega)) hG (by rfl) T.g__law_plain T.F__law_plain.kp T.B__law_plain (pa_cons (pv 7) pa_nil)) pa_nil))) pa_nil))) pa_nil))))))))
  (pss_one (ps_ret pe_bl))
  pss_nil))))
 (pss_cons (ps_for PassesOwn.never rfl (pi_seq (pe_lst (pa_cons (pe_lst (pa_cons (pe_tup (pa_cons pe_int (pa_cons pe_int (pa_cons pe_int (pa_cons pe_int pa_nil))))) pa_nil)) (pa_cons (pe_lst (pa_cons (pe_tup (pa_cons pe_int (pa_cons pe_int (pa_cons pe_int (pa_cons pe_int pa_nil))))) (pa_cons (pe_tup (pa_cons pe_int (pa_cons pe_int (pa_cons pe_int (pa_cons (pe_un un_neg pe_int) pa_nil))))) pa_nil))) (pa_cons (pe_lst (pa_cons (pe_tup (pa_cons pe_int (pa_cons pe_int (pa_cons pe_int (pa_cons pe_int pa_nil))))) (pa_cons (pe_tup (pa_cons pe_int (pa_cons pe_int (pa_cons pe_int (pa_cons pe_int pa_nil))))) pa_nil))) (pa_cons (pe_lst (pa_cons (pe_tup (pa_cons (pe_un un_neg pe_int) (pa_cons pe_int (pa_cons pe_int (pa_cons pe_int pa_nil))))) (pa_cons (pe_tup (pa_cons pe_int (pa_cons pe_int (pa_cons pe_int (pa_cons pe_int pa_nil))))) pa_nil))) pa_nil)))))) (pg_name (i := 10) sc__law_part_two.nd rfl (Or.inl rfl))
  (pss_one (ps_if (pt_not (pt_val (pe_callG (ok__law_told_two T) (hr.mono (by omega)) hG (by rfl) T.g__law_told_two T.F__law_told_two.kp T.B__law_told_two (pa_cons (pe_callB (call_sortD (ru66 hr)) (by rfl) T.z_sorted bt_sorted (pa_cons (pv 10) pa_nil)) pa_nil))))
  (pss_one (ps_ret pe_bl))
  pss_nil)))
 (pss_one (ps_ret (pe_callG (ok__law_told_two T) (hr.mono (by omega)) hG (by rfl) T.g__law_told_two T.F__law_told_two.kp T.B__law_told_two (pa_cons (pv 5) pa_nil))))))))))))), ?_⟩
  exact (sok_seq (sok_set 1 (eok_fn (aok_cons (eok_var 0) (aok_cons (eok_int 12) aok_nil)) (an_cons (an_cons an_nil))))
 (sok_seq (sok_frz [1] (sok_unp (gok_tup (gsok_cons (gok_name 2) (gsok_cons (gok_name 3) (gsok_cons (gok_name 4) gsok_nil))) (gs_len (gs_len (gs_len gs_len0 _) _) _)) (eok_fn (aok_cons (eok_var 1) (aok_cons (eok_int 0) aok_nil)) (an_cons (an_cons an_nil)))))
 (sok_seq (sok_set 5 (eok_callB cr_sortD (aok_cons (eok_fn (aok_cons (eok_var 4) aok_nil) (an_cons an_nil)) aok_nil)))
 (sok_seq (sok_set 6 (eok_fn (aok_cons (eok_lc (iok_seq (eok_var 4)) (gok_name 11) tok_yes (eok_fn (aok_cons (eok_var 11) aok_nil) (an_cons an_nil)) (by decide)) aok_nil) (an_cons an_nil)))
 (sok_seq (sok_frz [5, 6] (sok_if (tok_or (tok_not (tok_val (eok_fn (aok_cons (eok_var 6) (aok_cons (eok_lc (iok_seq (eok_var 5)) (gok_name 12) tok_yes (eok_fn (aok_cons (eok_var 12) aok_nil) (an_cons an_nil)) (by decide)) aok_nil)) (an_cons (an_cons an_nil))))) (tok_not (tok_val (eok_fn (aok_cons (eok_var 5) aok_nil) (an_cons an_nil)))))
  (sok_ret (eok_bool false))
  sok_pass))
 (sok_seq (sok_set 7 (eok_tup (aok_cons (eok_op r2_ix (eok_var 3) (eok_int 3)) (aok_cons (eok_un r1_neg (eok_op r2_ix (eok_var 3) (eok_int 1))) (aok_cons (eok_un r1_neg (eok_op r2_ix (eok_var 3) (eok_int 2))) (aok_cons (eok_op r2_ix (eok_var 3) (eok_int 0)) aok_nil))))))
 (sok_seq (sok_frz [5] (sok_if (tok_or (tok_not (tok_val (eok_fn (aok_cons (eok_var 5) (aok_cons (eok_var 2) (aok_cons (eok_fn (aok_cons (eok_var 7) aok_nil) (an_cons an_nil)) aok_nil))) (an_cons (an_cons (an_cons an_nil)))))) (tok_not (tok_val (eok_fn (aok_cons (eok_var 5) (aok_cons (eok_sl3 (eok_fn (aok_cons (eok_var 2) (aok_cons (eok_var 7) (aok_cons (eok_op r2_mod (eok_op r2_ix (eok_var 1) (eok_int 10)) (eok_int 6)) aok_nil))) (an_cons (an_cons (an_cons an_nil)))) (ook_is (eok_op r2_mod (eok_op r2_ix (eok_var 1) (eok_int 11)) (eok_int 4))) ook_no (ook_is (eok_int 4))) aok_nil)) (an_cons (an_cons an_nil))))))
  (sok_ret (eok_bool false))
  sok_pass))
 (sok_seq (sok_fo [8, 9] (sok_pre [8, 9] (sok_for (iok_seq (eok_lst (aok_cons (eok_op r2_ix (eok_lst (aok_cons (eok_str "square") (aok_cons (eok_str "hexagon") aok_nil))) (eok_op r2_mod (eok_op r2_fdiv (eok_op r2_ix (eok_var 1) (eok_int 11)) (eok_int 4)) (eok_int 2))) aok_nil))) (gok_name 8)
  (sok_fo [8, 9] (sok_seq (sok_set 9 (eok_callB cr_sortD (aok_cons (eok_lc (iok_seq (eok_fn (aok_cons (eok_var 8) aok_nil) (an_cons an_nil))) (gok_name 12) tok_yes (eok_fn (aok_cons (eok_var 3) (aok_cons (eok_var 12) aok_nil)) (an_cons (an_cons an_nil))) (by decide)) aok_nil)))
 (sok_frz [9] (sok_if (tok_or (tok_not (tok_val (eok_fn (aok_cons (eok_var 9) aok_nil) (an_cons an_nil)))) (tok_not (tok_val (eok_fn (aok_cons (eok_var 9) (aok_cons (eok_lst (aok_cons (eok_tup (aok_cons (eok_str "square") (aok_cons (eok_fn (aok_cons (eok_var 7) aok_nil) (an_cons an_nil)) aok_nil))) (aok_cons (eok_tup (aok_cons (eok_str "hexagon") (aok_cons (eok_fn (aok_cons (eok_var 7) aok_nil) (an_cons an_nil)) aok_nil))) aok_nil))) aok_nil)) (an_cons (an_cons an_nil))))))
  (sok_ret (eok_bool false))
  sok_pass)))))))
 (sok_seq (sok_fo [10] (sok_pre [10] (sok_for (iok_seq (eok_lst (aok_cons (eok_lst (aok_cons (eok_tup (aok_cons (eok_int 1) (aok_cons (eok_int 0) (aok_cons (eok_int 0) (aok_cons (eok_int 1) aok_nil))))) aok_nil)) (aok_cons (eok_lst (aok_cons (eok_tup (aok_cons (eok_int 1) (aok_cons (eok_int 0) (aok_cons (eok_int 0) (aok_cons (eok_int 1) aok_nil))))) (aok_cons (eok_tup (aok_cons (eok_int 1) (aok_cons (eok_int 1) (aok_cons (eok_int 0) (aok_cons (eok_un r1_neg (eok_int 1)) aok_nil))))) aok_nil))) (aok_cons (eok_lst (aok_cons (eok_tup (aok_cons (eok_int 0) (aok_cons (eok_int 1) (aok_cons (eok_int 1) (aok_cons (eok_int 0) aok_nil))))) (aok_cons (eok_tup (aok_cons (eok_int 1) (aok_cons (eok_int 0) (aok_cons (eok_int 0) (aok_cons (eok_int 1) aok_nil))))) aok_nil))) (aok_cons (eok_lst (aok_cons (eok_tup (aok_cons (eok_un r1_neg (eok_int 1)) (aok_cons (eok_int 0) (aok_cons (eok_int 0) (aok_cons (eok_int 1) aok_nil))))) (aok_cons (eok_tup (aok_cons (eok_int 1) (aok_cons (eok_int 0) (aok_cons (eok_int 0) (aok_cons (eok_int 1) aok_nil))))) aok_nil))) aok_nil)))))) (gok_name 10)
  (sok_fo [10] (sok_if (tok_not (tok_val (eok_fn (aok_cons (eok_callB cr_sortD (aok_cons (eok_var 10) aok_nil)) aok_nil) (an_cons an_nil))))
  (sok_ret (eok_bool false))
  sok_pass)))))
 (sok_frz [5] (sok_ret (eok_fn (aok_cons (eok_var 5) aok_nil) (an_cons an_nil)))))))))))))
end
section
variable {P : Program} {w : World} {K : PySem.W.Frag} {mg : Str → Option Value} {base : Heap}
theorem ok_law (T : Top P K mg) : FnG P w K mg base 29 T.a_law T.fd_law ["script"] (spD K 1 f_law) := by
  unfold f_law b_law
  refine fnG_data T.F_law sc_law rfl rfl fun cdv A outer s H hr hG => ?_
  refine ⟨_, (pss_one (ps_ret (pe_and (pe_callG (ok__law_part_one T) (hr.mono (by omega)) hG (by rfl) T.g__law_part_one T.F__law_part_one.kp T.B__law_part_one (pa_cons (pv 0) pa_nil)) (pe_one (pe_callG (ok__law_part_two T) (hr.mono (by omega)) hG (by rfl) T.g__law_part_two T.F__law_part_two.kp T.B__law_part_two (pa_cons (pv 0) pa_nil)))))), ?_⟩
  exact (sok_ret (eok_and (eok_fn (aok_cons (eok_var 0) aok_nil) (an_cons an_nil)) (eok_fn (aok_cons (eok_var 0) aok_nil) (an_cons an_nil))))
end
end Lk77
set_option maxRecDepth 100000
set_option maxHeartbeats 8000000
namespace Lk77
open PySem PySem.Spec PyProof.Rows L2 F3
theorem all_mk {l : PySem.W.OpenLaw} {w : World} {K : PySem.W.Frag} {h : Heap} {mg : Str → Option Value} {fa : Addr} (X : K.In h) (G : h.Ns mainGlobals mg) (hfa : mg "law" = some (.ref fa))
    {f0 : Addr} {od0 an0 : Option Addr} {sl0 : Array (Option Value)} {oc0 kV0 dc0 pm0 cd0 ct0 : Value}
    {f1 : Addr} {od1 an1 : Option Addr} {sl1 : Array (Option Value)} {oc1 kV1 dc1 pm1 cd1 ct1 : Value}
    {f2 : Addr} {od2 an2 : Option Addr} {sl2 : Array (Option Value)} {oc2 kV2 dc2 pm2 cd2 ct2 : Value}
    {f3 : Addr} {od3 an3 : Option Addr} {sl3 : Array (Option Value)} {oc3 kV3 dc3 pm3 cd3 ct3 : Value}
    {f4 : Addr} {od4 an4 : Option Addr} {sl4 : Array (Option Value)} {oc4 kV4 dc4 pm4 cd4 ct4 : Value}
    {f5 : Addr} {od5 an5 : Option Addr} {sl5 : Array (Option Value)} {oc5 kV5 dc5 pm5 cd5 ct5 : Value}
    {f6 : Addr} {od6 an6 : Option Addr} {sl6 : Array (Option Value)} {oc6 kV6 dc6 pm6 cd6 ct6 : Value}
    {f7 : Addr} {od7 an7 : Option Addr} {sl7 : Array (Option Value)} {oc7 kV7 dc7 pm7 cd7 ct7 : Value}
    {f8 : Addr} {od8 an8 : Option Addr} {sl8 : Array (Option Value)} {oc8 kV8 dc8 pm8 cd8 ct8 : Value}
    {f9 : Addr} {od9 an9 : Option Addr} {sl9 : Array (Option Value)} {oc9 kV9 dc9 pm9 cd9 ct9 : Value}
    {f10 : Addr} {od10 an10 : Option Addr} {sl10 : Array (Option Value)} {oc10 kV10 dc10 pm10 cd10 ct10 : Value}
    {f11 : Addr} {od11 an11 : Option Addr} {sl11 : Array (Option Value)} {oc11 kV11 dc11 pm11 cd11 ct11 : Value}
    {f12 : Addr} {od12 an12 : Option Addr} {sl12 : Array (Option Value)} {oc12 kV12 dc12 pm12 cd12 ct12 : Value}
    {f13 : Addr} {od13 an13 : Option Addr} {sl13 : Array (Option Value)} {oc13 kV13 dc13 pm13 cd13 ct13 : Value}
    {f14 : Addr} {od14 an14 : Option Addr} {sl14 : Array (Option Value)} {oc14 kV14 dc14 pm14 cd14 ct14 : Value}
    {f15 : Addr} {od15 an15 : Option Addr} {sl15 : Array (Option Value)} {oc15 kV15 dc15 pm15 cd15 ct15 : Value}
    {f16 : Addr} {od16 an16 : Option Addr} {sl16 : Array (Option Value)} {oc16 kV16 dc16 pm16 cd16 ct16 : Value}
    {f17 : Addr} {od17 an17 : Option Addr} {sl17 : Array (Option Value)} {oc17 kV17 dc17 pm17 cd17 ct17 : Value}
    {f18 : Addr} {od18 an18 : Option Addr} {sl18 : Array (Option Value)} {oc18 kV18 dc18 pm18 cd18 ct18 : Value}
    {f19 : Addr} {od19 an19 : Option Addr} {sl19 : Array (Option Value)} {oc19 kV19 dc19 pm19 cd19 ct19 : Value}
    {f20 : Addr} {od20 an20 : Option Addr} {sl20 : Array (Option Value)} {oc20 kV20 dc20 pm20 cd20 ct20 : Value}
    {f21 : Addr} {od21 an21 : Option Addr} {sl21 : Array (Option Value)} {oc21 kV21 dc21 pm21 cd21 ct21 : Value}
    {f22 : Addr} {od22 an22 : Option Addr} {sl22 : Array (Option Value)} {oc22 kV22 dc22 pm22 cd22 ct22 : Value}
    {f23 : Addr} {od23 an23 : Option Addr} {sl23 : Array (Option Value)} {oc23 kV23 dc23 pm23 cd23 ct23 : Value}
    {f24 : Addr} {od24 an24 : Option Addr} {sl24 : Array (Option Value)} {oc24 kV24 dc24 pm24 cd24 ct24 : Value}
    {f25 : Addr} {od25 an25 : Option Addr} {sl25 : Array (Option Value)} {oc25 kV25 dc25 pm25 cd25 ct25 : Value}
    {f26 : Addr} {od26 an26 : Option Addr} {sl26 : Array (Option Value)} {oc26 kV26 dc26 pm26 cd26 ct26 : Value}
    {f27 : Addr} {od27 an27 : Option Addr} {sl27 : Array (Option Value)} {oc27 kV27 dc27 pm27 cd27 ct27 : Value}
    {f28 : Addr} {od28 an28 : Option Addr} {sl28 : Array (Option Value)} {oc28 kV28 dc28 pm28 cd28 ct28 : Value}
    {f29 : Addr} {od29 an29 : Option Addr} {sl29 : Array (Option Value)} {oc29 kV29 dc29 pm29 cd29 ct29 : Value}
    {f30 : Addr} {od30 an30 : Option Addr} {sl30 : Array (Option Value)} {oc30 kV30 dc30 pm30 cd30 ct30 : Value}
    {f31 : Addr} {od31 an31 : Option Addr} {sl31 : Array (Option Value)} {oc31 kV31 dc31 pm31 cd31 ct31 : Value}
    {f32 : Addr} {od32 an32 : Option Addr} {sl32 : Array (Option Value)} {oc32 kV32 dc32 pm32 cd32 ct32 : Value}
    {f33 : Addr} {od33 an33 : Option Addr} {sl33 : Array (Option Value)} {oc33 kV33 dc33 pm33 cd33 ct33 : Value}
    {f34 : Addr} {od34 an34 : Option Addr} {sl34 : Array (Option Value)} {oc34 kV34 dc34 pm34 cd34 ct34 : Value}
    {f35 : Addr} {od35 an35 : Option Addr} {sl35 : Array (Option Value)} {oc35 kV35 dc35 pm35 cd35 ct35 : Value}
    {f36 : Addr} {od36 an36 : Option Addr} {sl36 : Array (Option Value)} {oc36 kV36 dc36 pm36 cd36 ct36 : Value}
    {f37 : Addr} {od37 an37 : Option Addr} {sl37 : Array (Option Value)} {oc37 kV37 dc37 pm37 cd37 ct37 : Value}
    {f38 : Addr} {od38 an38 : Option Addr} {sl38 : Array (Option Value)} {oc38 kV38 dc38 pm38 cd38 ct38 : Value}
    {f39 : Addr} {od39 an39 : Option Addr} {sl39 : Array (Option Value)} {oc39 kV39 dc39 pm39 cd39 ct39 : Value}
    {f40 : Addr} {od40 an40 : Option Addr} {sl40 : Array (Option Value)} {oc40 kV40 dc40 pm40 cd40 ct40 : Value}
    {f41 : Addr} {od41 an41 : Option Addr} {sl41 : Array (Option Value)} {oc41 kV41 dc41 pm41 cd41 ct41 : Value}
    {f42 : Addr} {od42 an42 : Option Addr} {sl42 : Array (Option Value)} {oc42 kV42 dc42 pm42 cd42 ct42 : Value}
    {f43 : Addr} {od43 an43 : Option Addr} {sl43 : Array (Option Value)} {oc43 kV43 dc43 pm43 cd43 ct43 : Value}
    {f44 : Addr} {od44 an44 : Option Addr} {sl44 : Array (Option Value)} {oc44 kV44 dc44 pm44 cd44 ct44 : Value}
    {f45 : Addr} {od45 an45 : Option Addr} {sl45 : Array (Option Value)} {oc45 kV45 dc45 pm45 cd45 ct45 : Value}
    {t0_0 : Tok}
    {t0_1 : Tok}
    {t0_2 : Tok}
    {t0_3 : Tok}
    {t0_4 : Tok}
    {t0_5 : Tok}
    {q0 : Addr} {qo0 : Option Addr} {qn0 : Nat} {qs0 : Array (Option Value)}
    {u_MOST : Tok}
    {t2_0 : Tok}
    {t2_1 : Tok}
    {q2 : Addr} {qo2 : Option Addr} {qn2 : Nat} {qs2 : Array (Option Value)}
    {t3_0 : Tok}
    {t3_1 : Tok}
    {q3 : Addr} {qo3 : Option Addr} {qn3 : Nat} {qs3 : Array (Option Value)}
    {t4_0 : Tok}
    {t4_1 : Tok}
    {q4 : Addr} {qo4 : Option Addr} {qn4 : Nat} {qs4 : Array (Option Value)}
    {t5_0 : Tok}
    {t5_1 : Tok}
    {q5 : Addr} {qo5 : Option Addr} {qn5 : Nat} {qs5 : Array (Option Value)}
    {t6_0 : Tok}
    {t6_1 : Tok}
    {q6 : Addr} {qo6 : Option Addr} {qn6 : Nat} {qs6 : Array (Option Value)}
    {t7_0 : Tok}
    {t7_1 : Tok}
    {q7 : Addr} {qo7 : Option Addr} {qn7 : Nat} {qs7 : Array (Option Value)}
    {q1 : Addr} {qo1 : Option Addr} {qn1 : Nat} {qs1 : Array (Option Value)}
    {t9_0 : Tok}
    {t9_1 : Tok}
    {t9_2 : Tok}
    {t9_3 : Tok}
    {t9_4 : Tok}
    {t9_5 : Tok}
    {q9 : Addr} {qo9 : Option Addr} {qn9 : Nat} {qs9 : Array (Option Value)}
    {t10_0 : Tok}
    {t10_1 : Tok}
    {t10_2 : Tok}
    {t10_3 : Tok}
    {t10_4 : Tok}
    {t10_5 : Tok}
    {q10 : Addr} {qo10 : Option Addr} {qn10 : Nat} {qs10 : Array (Option Value)}
    {t11_0 : Tok}
    {t11_1 : Tok}
    {t11_2 : Tok}
    {t11_3 : Tok}
    {t11_4 : Tok}
    {t11_5 : Tok}
    {q11 : Addr} {qo11 : Option Addr} {qn11 : Nat} {qs11 : Array (Option Value)}
    {t12_0 : Tok}
    {t12_1 : Tok}
    {t12_2 : Tok}
    {t12_3 : Tok}
    {t12_4 : Tok}
    {t12_5 : Tok}
    {q12 : Addr} {qo12 : Option Addr} {qn12 : Nat} {qs12 : Array (Option Value)}
    {t13_0 : Tok}
    {t13_1 : Tok}
    {t13_2 : Tok}
    {t13_3 : Tok}
    {t13_4 : Tok}
    {t13_5 : Tok}
    {q13 : Addr} {qo13 : Option Addr} {qn13 : Nat} {qs13 : Array (Option Value)}
    {q8 : Addr} {qo8 : Option Addr} {qn8 : Nat} {qs8 : Array (Option Value)}
    {Xx0 : Addr}
    {Xx1 : Addr}
    {Xx2 : Addr}
    {Xx3 : Addr}
    {f_x0 Ex0 Nx0 ccx0 cdax0 NEx0 : Addr} {nmx0 qnx0 nmEx0 qEx0 : Str} {bsx0 sbx0 bsEx0 sbEx0 : List Value} {snx0 snEx0 : List Str} {abx0 abEx0 hdEx0 dlEx0 : Bool} {colx0 colEx0 : Option Bool} {ddx0 : Option Addr} {k0x0 k1x0 k2x0 k3x0 k5x0 : Option Value}
    {ocx0 dcx0 pmx0 ctx0 clx0 cclx0 : Value} {odx0 anx0 cldx0 cddx0 : Option Addr} {slx0 cslx0 ccsx0 : Array (Option Value)} {vsx0 : Array Value} {flx0 : Str} {tfx0 : Tok}
    {tlx0 : List Value}
    (a0 : PySem.W.nsIn K mainGlobals "from_to" = some (some (.ref f0))) (l0 : K.lookup f0 = some ⟨oc0, od0, .func (PySem.W.fnOf "from_to" "from_to" (defArgs s_from_to) (defBody s_from_to) (defScope s_from_to) .none kV0 dc0 pm0 an0 cd0 ct0), sl0⟩)
    (c0 : PySem.W.codeIn K cd0 "from_to" = true) (k0 : PySem.W.keepIn K (.ref f0) = true)
    (a1 : PySem.W.nsIn K mainGlobals "taken" = some (some (.ref f1))) (l1 : K.lookup f1 = some ⟨oc1, od1, .func (PySem.W.fnOf "taken" "taken" (defArgs s_taken) (defBody s_taken) (defScope s_taken) .none kV1 dc1 pm1 an1 cd1 ct1), sl1⟩)
    (c1 : PySem.W.codeIn K cd1 "taken" = true) (k1 : PySem.W.keepIn K (.ref f1) = true)
    (a2 : PySem.W.nsIn K mainGlobals "is_number" = some (some (.ref f2))) (l2 : K.lookup f2 = some ⟨oc2, od2, .func (PySem.W.fnOf "is_number" "is_number" (defArgs s_is_number) (defBody s_is_number) (defScope s_is_number) .none kV2 dc2 pm2 an2 cd2 ct2), sl2⟩)
    (c2 : PySem.W.codeIn K cd2 "is_number" = true) (k2 : PySem.W.keepIn K (.ref f2) = true)
    (a3 : PySem.W.nsIn K mainGlobals "is_number_tuple" = some (some (.ref f3))) (l3 : K.lookup f3 = some ⟨oc3, od3, .func (PySem.W.fnOf "is_number_tuple" "is_number_tuple" (defArgs s_is_number_tuple) (defBody s_is_number_tuple) (defScope s_is_number_tuple) .none kV3 dc3 pm3 an3 cd3 ct3), sl3⟩)
    (c3 : PySem.W.codeIn K cd3 "is_number_tuple" = true) (k3 : PySem.W.keepIn K (.ref f3) = true)
    (a4 : PySem.W.nsIn K mainGlobals "strength" = some (some (.ref f4))) (l4 : K.lookup f4 = some ⟨oc4, od4, .func (PySem.W.fnOf "strength" "strength" (defArgs s_strength) (defBody s_strength) (defScope s_strength) .none kV4 dc4 pm4 an4 cd4 ct4), sl4⟩)
    (c4 : PySem.W.codeIn K cd4 "strength" = true) (k4 : PySem.W.keepIn K (.ref f4) = true)
    (a5 : PySem.W.nsIn K mainGlobals "is_move" = some (some (.ref f5))) (l5 : K.lookup f5 = some ⟨oc5, od5, .func (PySem.W.fnOf "is_move" "is_move" (defArgs s_is_move) (defBody s_is_move) (defScope s_is_move) .none kV5 dc5 pm5 an5 cd5 ct5), sl5⟩)
    (c5 : PySem.W.codeIn K cd5 "is_move" = true) (k5 : PySem.W.keepIn K (.ref f5) = true)
    (a6 : PySem.W.nsIn K mainGlobals "is_plain" = some (some (.ref f6))) (l6 : K.lookup f6 = some ⟨oc6, od6, .func (PySem.W.fnOf "is_plain" "is_plain" (defArgs s_is_plain) (defBody s_is_plain) (defScope s_is_plain) .none kV6 dc6 pm6 an6 cd6 ct6), sl6⟩)
    (c6 : PySem.W.codeIn K cd6 "is_plain" = true) (k6 : PySem.W.keepIn K (.ref f6) = true)
    (a7 : PySem.W.nsIn K mainGlobals "sent" = some (some (.ref f7))) (l7 : K.lookup f7 = some ⟨oc7, od7, .func (PySem.W.fnOf "sent" "sent" (defArgs s_sent) (defBody s_sent) (defScope s_sent) .none kV7 dc7 pm7 an7 cd7 ct7), sl7⟩)
    (c7 : PySem.W.codeIn K cd7 "sent" = true) (k7 : PySem.W.keepIn K (.ref f7) = true)
    (a8 : PySem.W.nsIn K mainGlobals "sent_vector" = some (some (.ref f8))) (l8 : K.lookup f8 = some ⟨oc8, od8, .func (PySem.W.fnOf "sent_vector" "sent_vector" (defArgs s_sent_vector) (defBody s_sent_vector) (defScope s_sent_vector) .none kV8 dc8 pm8 an8 cd8 ct8), sl8⟩)
    (c8 : PySem.W.codeIn K cd8 "sent_vector" = true) (k8 : PySem.W.keepIn K (.ref f8) = true)
    (a9 : PySem.W.nsIn K mainGlobals "after" = some (some (.ref f9))) (l9 : K.lookup f9 = some ⟨oc9, od9, .func (PySem.W.fnOf "after" "after" (defArgs s_after) (defBody s_after) (defScope s_after) .none kV9 dc9 pm9 an9 cd9 ct9), sl9⟩)
    (c9 : PySem.W.codeIn K cd9 "after" = true) (k9 : PySem.W.keepIn K (.ref f9) = true)
    (a10 : PySem.W.nsIn K mainGlobals "undoing" = some (some (.ref f10))) (l10 : K.lookup f10 = some ⟨oc10, od10, .func (PySem.W.fnOf "undoing" "undoing" (defArgs s_undoing) (defBody s_undoing) (defScope s_undoing) .none kV10 dc10 pm10 an10 cd10 ct10), sl10⟩)
    (c10 : PySem.W.codeIn K cd10 "undoing" = true) (k10 : PySem.W.keepIn K (.ref f10) = true)
    (a11 : PySem.W.nsIn K mainGlobals "nearest" = some (some (.ref f11))) (l11 : K.lookup f11 = some ⟨oc11, od11, .func (PySem.W.fnOf "nearest" "nearest" (defArgs s_nearest) (defBody s_nearest) (defScope s_nearest) .none kV11 dc11 pm11 an11 cd11 ct11), sl11⟩)
    (c11 : PySem.W.codeIn K cd11 "nearest" = true) (k11 : PySem.W.keepIn K (.ref f11) = true)
    (a12 : PySem.W.nsIn K mainGlobals "form_of" = some (some (.ref f12))) (l12 : K.lookup f12 = some ⟨oc12, od12, .func (PySem.W.fnOf "form_of" "form_of" (defArgs s_form_of) (defBody s_form_of) (defScope s_form_of) .none kV12 dc12 pm12 an12 cd12 ct12), sl12⟩)
    (c12 : PySem.W.codeIn K cd12 "form_of" = true) (k12 : PySem.W.keepIn K (.ref f12) = true)
    (a13 : PySem.W.nsIn K mainGlobals "mixed_value" = some (some (.ref f13))) (l13 : K.lookup f13 = some ⟨oc13, od13, .func (PySem.W.fnOf "mixed_value" "mixed_value" (defArgs s_mixed_value) (defBody s_mixed_value) (defScope s_mixed_value) .none kV13 dc13 pm13 an13 cd13 ct13), sl13⟩)
    (c13 : PySem.W.codeIn K cd13 "mixed_value" = true) (k13 : PySem.W.keepIn K (.ref f13) = true)
    (a14 : PySem.W.nsIn K mainGlobals "straightened" = some (some (.ref f14))) (l14 : K.lookup f14 = some ⟨oc14, od14, .func (PySem.W.fnOf "straightened" "straightened" (defArgs s_straightened) (defBody s_straightened) (defScope s_straightened) .none kV14 dc14 pm14 an14 cd14 ct14), sl14⟩)
    (c14 : PySem.W.codeIn K cd14 "straightened" = true) (k14 : PySem.W.keepIn K (.ref f14) = true)
    (a15 : PySem.W.nsIn K mainGlobals "least_basis" = some (some (.ref f15))) (l15 : K.lookup f15 = some ⟨oc15, od15, .func (PySem.W.fnOf "least_basis" "least_basis" (defArgs s_least_basis) (defBody s_least_basis) (defScope s_least_basis) .none kV15 dc15 pm15 an15 cd15 ct15), sl15⟩)
    (c15 : PySem.W.codeIn K cd15 "least_basis" = true) (k15 : PySem.W.keepIn K (.ref f15) = true)
    (a16 : PySem.W.nsIn K mainGlobals "settling" = some (some (.ref f16))) (l16 : K.lookup f16 = some ⟨oc16, od16, .func (PySem.W.fnOf "settling" "settling" (defArgs s_settling) (defBody s_settling) (defScope s_settling) .none kV16 dc16 pm16 an16 cd16 ct16), sl16⟩)
    (c16 : PySem.W.codeIn K cd16 "settling" = true) (k16 : PySem.W.keepIn K (.ref f16) = true)
    (a17 : PySem.W.nsIn K mainGlobals "group_of" = some (some (.ref f17))) (l17 : K.lookup f17 = some ⟨oc17, od17, .func (PySem.W.fnOf "group_of" "group_of" (defArgs s_group_of) (defBody s_group_of) (defScope s_group_of) .none kV17 dc17 pm17 an17 cd17 ct17), sl17⟩)
    (c17 : PySem.W.codeIn K cd17 "group_of" = true) (k17 : PySem.W.keepIn K (.ref f17) = true)
    (a18 : PySem.W.nsIn K mainGlobals "keeps_square" = some (some (.ref f18))) (l18 : K.lookup f18 = some ⟨oc18, od18, .func (PySem.W.fnOf "keeps_square" "keeps_square" (defArgs s_keeps_square) (defBody s_keeps_square) (defScope s_keeps_square) .none kV18 dc18 pm18 an18 cd18 ct18), sl18⟩)
    (c18 : PySem.W.codeIn K cd18 "keeps_square" = true) (k18 : PySem.W.keepIn K (.ref f18) = true)
    (a19 : PySem.W.nsIn K mainGlobals "keeps_hexagon" = some (some (.ref f19))) (l19 : K.lookup f19 = some ⟨oc19, od19, .func (PySem.W.fnOf "keeps_hexagon" "keeps_hexagon" (defArgs s_keeps_hexagon) (defBody s_keeps_hexagon) (defScope s_keeps_hexagon) .none kV19 dc19 pm19 an19 cd19 ct19), sl19⟩)
    (c19 : PySem.W.codeIn K cd19 "keeps_hexagon" = true) (k19 : PySem.W.keepIn K (.ref f19) = true)
    (a20 : PySem.W.nsIn K mainGlobals "made_by" = some (some (.ref f20))) (l20 : K.lookup f20 = some ⟨oc20, od20, .func (PySem.W.fnOf "made_by" "made_by" (defArgs s_made_by) (defBody s_made_by) (defScope s_made_by) .none kV20 dc20 pm20 an20 cd20 ct20), sl20⟩)
    (c20 : PySem.W.codeIn K cd20 "made_by" = true) (k20 : PySem.W.keepIn K (.ref f20) = true)
    (a21 : PySem.W.nsIn K mainGlobals "shows_standard" = some (some (.ref f21))) (l21 : K.lookup f21 = some ⟨oc21, od21, .func (PySem.W.fnOf "shows_standard" "shows_standard" (defArgs s_shows_standard) (defBody s_shows_standard) (defScope s_shows_standard) .none kV21 dc21 pm21 an21 cd21 ct21), sl21⟩)
    (c21 : PySem.W.codeIn K cd21 "shows_standard" = true) (k21 : PySem.W.keepIn K (.ref f21) = true)
    (a22 : PySem.W.nsIn K mainGlobals "standard_group" = some (some (.ref f22))) (l22 : K.lookup f22 = some ⟨oc22, od22, .func (PySem.W.fnOf "standard_group" "standard_group" (defArgs s_standard_group) (defBody s_standard_group) (defScope s_standard_group) .none kV22 dc22 pm22 an22 cd22 ct22), sl22⟩)
    (c22 : PySem.W.codeIn K cd22 "standard_group" = true) (k22 : PySem.W.keepIn K (.ref f22) = true)
    (a23 : PySem.W.nsIn K mainGlobals "_law_draws" = some (some (.ref f23))) (l23 : K.lookup f23 = some ⟨oc23, od23, .func (PySem.W.fnOf "_law_draws" "_law_draws" (defArgs s__law_draws) (defBody s__law_draws) (defScope s__law_draws) .none kV23 dc23 pm23 an23 cd23 ct23), sl23⟩)
    (c23 : PySem.W.codeIn K cd23 "_law_draws" = true) (k23 : PySem.W.keepIn K (.ref f23) = true)
    (a24 : PySem.W.nsIn K mainGlobals "_law_is_number" = some (some (.ref f24))) (l24 : K.lookup f24 = some ⟨oc24, od24, .func (PySem.W.fnOf "_law_is_number" "_law_is_number" (defArgs s__law_is_number) (defBody s__law_is_number) (defScope s__law_is_number) .none kV24 dc24 pm24 an24 cd24 ct24), sl24⟩)
    (c24 : PySem.W.codeIn K cd24 "_law_is_number" = true) (k24 : PySem.W.keepIn K (.ref f24) = true)
    (a25 : PySem.W.nsIn K mainGlobals "_law_same" = some (some (.ref f25))) (l25 : K.lookup f25 = some ⟨oc25, od25, .func (PySem.W.fnOf "_law_same" "_law_same" (defArgs s__law_same) (defBody s__law_same) (defScope s__law_same) .none kV25 dc25 pm25 an25 cd25 ct25), sl25⟩)
    (c25 : PySem.W.codeIn K cd25 "_law_same" = true) (k25 : PySem.W.keepIn K (.ref f25) = true)
    (a26 : PySem.W.nsIn K mainGlobals "_law_even" = some (some (.ref f26))) (l26 : K.lookup f26 = some ⟨oc26, od26, .func (PySem.W.fnOf "_law_even" "_law_even" (defArgs s__law_even) (defBody s__law_even) (defScope s__law_even) .none kV26 dc26 pm26 an26 cd26 ct26), sl26⟩)
    (c26 : PySem.W.codeIn K cd26 "_law_even" = true) (k26 : PySem.W.keepIn K (.ref f26) = true)
    (a27 : PySem.W.nsIn K mainGlobals "_law_times" = some (some (.ref f27))) (l27 : K.lookup f27 = some ⟨oc27, od27, .func (PySem.W.fnOf "_law_times" "_law_times" (defArgs s__law_times) (defBody s__law_times) (defScope s__law_times) .none kV27 dc27 pm27 an27 cd27 ct27), sl27⟩)
    (c27 : PySem.W.codeIn K cd27 "_law_times" = true) (k27 : PySem.W.keepIn K (.ref f27) = true)
    (a28 : PySem.W.nsIn K mainGlobals "_law_by" = some (some (.ref f28))) (l28 : K.lookup f28 = some ⟨oc28, od28, .func (PySem.W.fnOf "_law_by" "_law_by" (defArgs s__law_by) (defBody s__law_by) (defScope s__law_by) .none kV28 dc28 pm28 an28 cd28 ct28), sl28⟩)
    (c28 : PySem.W.codeIn K cd28 "_law_by" = true) (k28 : PySem.W.keepIn K (.ref f28) = true)
    (a29 : PySem.W.nsIn K mainGlobals "_law_keeps" = some (some (.ref f29))) (l29 : K.lookup f29 = some ⟨oc29, od29, .func (PySem.W.fnOf "_law_keeps" "_law_keeps" (defArgs s__law_keeps) (defBody s__law_keeps) (defScope s__law_keeps) .none kV29 dc29 pm29 an29 cd29 ct29), sl29⟩)
    (c29 : PySem.W.codeIn K cd29 "_law_keeps" = true) (k29 : PySem.W.keepIn K (.ref f29) = true)
    (a30 : PySem.W.nsIn K mainGlobals "_law_keeping" = some (some (.ref f30))) (l30 : K.lookup f30 = some ⟨oc30, od30, .func (PySem.W.fnOf "_law_keeping" "_law_keeping" (defArgs s__law_keeping) (defBody s__law_keeping) (defScope s__law_keeping) .none kV30 dc30 pm30 an30 cd30 ct30), sl30⟩)
    (c30 : PySem.W.codeIn K cd30 "_law_keeping" = true) (k30 : PySem.W.keepIn K (.ref f30) = true)
    (a31 : PySem.W.nsIn K mainGlobals "_law_plain" = some (some (.ref f31))) (l31 : K.lookup f31 = some ⟨oc31, od31, .func (PySem.W.fnOf "_law_plain" "_law_plain" (defArgs s__law_plain) (defBody s__law_plain) (defScope s__law_plain) .none kV31 dc31 pm31 an31 cd31 ct31), sl31⟩)
    (c31 : PySem.W.codeIn K cd31 "_law_plain" = true) (k31 : PySem.W.keepIn K (.ref f31) = true)
    (a32 : PySem.W.nsIn K mainGlobals "_law_closed" = some (some (.ref f32))) (l32 : K.lookup f32 = some ⟨oc32, od32, .func (PySem.W.fnOf "_law_closed" "_law_closed" (defArgs s__law_closed) (defBody s__law_closed) (defScope s__law_closed) .none kV32 dc32 pm32 an32 cd32 ct32), sl32⟩)
    (c32 : PySem.W.codeIn K cd32 "_law_closed" = true) (k32 : PySem.W.keepIn K (.ref f32) = true)
    (a33 : PySem.W.nsIn K mainGlobals "_law_placed_moves" = some (some (.ref f33))) (l33 : K.lookup f33 = some ⟨oc33, od33, .func (PySem.W.fnOf "_law_placed_moves" "_law_placed_moves" (defArgs s__law_placed_moves) (defBody s__law_placed_moves) (defScope s__law_placed_moves) .none kV33 dc33 pm33 an33 cd33 ct33), sl33⟩)
    (c33 : PySem.W.codeIn K cd33 "_law_placed_moves" = true) (k33 : PySem.W.keepIn K (.ref f33) = true)
    (a34 : PySem.W.nsIn K mainGlobals "_law_world" = some (some (.ref f34))) (l34 : K.lookup f34 = some ⟨oc34, od34, .func (PySem.W.fnOf "_law_world" "_law_world" (defArgs s__law_world) (defBody s__law_world) (defScope s__law_world) .none kV34 dc34 pm34 an34 cd34 ct34), sl34⟩)
    (c34 : PySem.W.codeIn K cd34 "_law_world" = true) (k34 : PySem.W.keepIn K (.ref f34) = true)
    (a35 : PySem.W.nsIn K mainGlobals "_law_told" = some (some (.ref f35))) (l35 : K.lookup f35 = some ⟨oc35, od35, .func (PySem.W.fnOf "_law_told" "_law_told" (defArgs s__law_told) (defBody s__law_told) (defScope s__law_told) .none kV35 dc35 pm35 an35 cd35 ct35), sl35⟩)
    (c35 : PySem.W.codeIn K cd35 "_law_told" = true) (k35 : PySem.W.keepIn K (.ref f35) = true)
    (a36 : PySem.W.nsIn K mainGlobals "_law_part_one" = some (some (.ref f36))) (l36 : K.lookup f36 = some ⟨oc36, od36, .func (PySem.W.fnOf "_law_part_one" "_law_part_one" (defArgs s__law_part_one) (defBody s__law_part_one) (defScope s__law_part_one) .none kV36 dc36 pm36 an36 cd36 ct36), sl36⟩)
    (c36 : PySem.W.codeIn K cd36 "_law_part_one" = true) (k36 : PySem.W.keepIn K (.ref f36) = true)
    (a37 : PySem.W.nsIn K mainGlobals "_law_is_tuple" = some (some (.ref f37))) (l37 : K.lookup f37 = some ⟨oc37, od37, .func (PySem.W.fnOf "_law_is_tuple" "_law_is_tuple" (defArgs s__law_is_tuple) (defBody s__law_is_tuple) (defScope s__law_is_tuple) .none kV37 dc37 pm37 an37 cd37 ct37), sl37⟩)
    (c37 : PySem.W.codeIn K cd37 "_law_is_tuple" = true) (k37 : PySem.W.keepIn K (.ref f37) = true)
    (a38 : PySem.W.nsIn K mainGlobals "_law_fresh" = some (some (.ref f38))) (l38 : K.lookup f38 = some ⟨oc38, od38, .func (PySem.W.fnOf "_law_fresh" "_law_fresh" (defArgs s__law_fresh) (defBody s__law_fresh) (defScope s__law_fresh) .none kV38 dc38 pm38 an38 cd38 ct38), sl38⟩)
    (c38 : PySem.W.codeIn K cd38 "_law_fresh" = true) (k38 : PySem.W.keepIn K (.ref f38) = true)
    (a39 : PySem.W.nsIn K mainGlobals "_law_square_fits" = some (some (.ref f39))) (l39 : K.lookup f39 = some ⟨oc39, od39, .func (PySem.W.fnOf "_law_square_fits" "_law_square_fits" (defArgs s__law_square_fits) (defBody s__law_square_fits) (defScope s__law_square_fits) .none kV39 dc39 pm39 an39 cd39 ct39), sl39⟩)
    (c39 : PySem.W.codeIn K cd39 "_law_square_fits" = true) (k39 : PySem.W.keepIn K (.ref f39) = true)
    (a40 : PySem.W.nsIn K mainGlobals "_law_right_standard" = some (some (.ref f40))) (l40 : K.lookup f40 = some ⟨oc40, od40, .func (PySem.W.fnOf "_law_right_standard" "_law_right_standard" (defArgs s__law_right_standard) (defBody s__law_right_standard) (defScope s__law_right_standard) .none kV40 dc40 pm40 an40 cd40 ct40), sl40⟩)
    (c40 : PySem.W.codeIn K cd40 "_law_right_standard" = true) (k40 : PySem.W.keepIn K (.ref f40) = true)
    (a41 : PySem.W.nsIn K mainGlobals "_law_judged" = some (some (.ref f41))) (l41 : K.lookup f41 = some ⟨oc41, od41, .func (PySem.W.fnOf "_law_judged" "_law_judged" (defArgs s__law_judged) (defBody s__law_judged) (defScope s__law_judged) .none kV41 dc41 pm41 an41 cd41 ct41), sl41⟩)
    (c41 : PySem.W.codeIn K cd41 "_law_judged" = true) (k41 : PySem.W.keepIn K (.ref f41) = true)
    (a42 : PySem.W.nsIn K mainGlobals "_law_told_two" = some (some (.ref f42))) (l42 : K.lookup f42 = some ⟨oc42, od42, .func (PySem.W.fnOf "_law_told_two" "_law_told_two" (defArgs s__law_told_two) (defBody s__law_told_two) (defScope s__law_told_two) .none kV42 dc42 pm42 an42 cd42 ct42), sl42⟩)
    (c42 : PySem.W.codeIn K cd42 "_law_told_two" = true) (k42 : PySem.W.keepIn K (.ref f42) = true)
    (a43 : PySem.W.nsIn K mainGlobals "_law_pairs" = some (some (.ref f43))) (l43 : K.lookup f43 = some ⟨oc43, od43, .func (PySem.W.fnOf "_law_pairs" "_law_pairs" (defArgs s__law_pairs) (defBody s__law_pairs) (defScope s__law_pairs) .none kV43 dc43 pm43 an43 cd43 ct43), sl43⟩)
    (c43 : PySem.W.codeIn K cd43 "_law_pairs" = true) (k43 : PySem.W.keepIn K (.ref f43) = true)
    (a44 : PySem.W.nsIn K mainGlobals "_law_part_two" = some (some (.ref f44))) (l44 : K.lookup f44 = some ⟨oc44, od44, .func (PySem.W.fnOf "_law_part_two" "_law_part_two" (defArgs s__law_part_two) (defBody s__law_part_two) (defScope s__law_part_two) .none kV44 dc44 pm44 an44 cd44 ct44), sl44⟩)
    (c44 : PySem.W.codeIn K cd44 "_law_part_two" = true) (k44 : PySem.W.keepIn K (.ref f44) = true)
    (a45 : PySem.W.nsIn K mainGlobals "law" = some (some (.ref f45))) (l45 : K.lookup f45 = some ⟨oc45, od45, .func (PySem.W.fnOf "law" "law" (defArgs s_law) (defBody s_law) (defScope s_law) .none kV45 dc45 pm45 an45 cd45 ct45), sl45⟩)
    (c45 : PySem.W.codeIn K cd45 "law" = true) (k45 : PySem.W.keepIn K (.ref f45) = true)
    (b_REST : PySem.W.nsIn K mainGlobals "REST" = some (some (.ref q0)))
    (m0 : K.lookup q0 = some ⟨.type "tuple", qo0, .seq #[.int 1 t0_0, .int 0 t0_1, .int 0 t0_2, .int 1 t0_3, .int 0 t0_4, .int 0 t0_5] qn0, qs0⟩)
    (b_MOST : PySem.W.nsIn K mainGlobals "MOST" = some (some (.int 12 u_MOST)))
    (b_HEXAGON : PySem.W.nsIn K mainGlobals "HEXAGON" = some (some (.ref q1)))
    (m1 : K.lookup q1 = some ⟨.type "tuple", qo1, .seq #[.ref q2, .ref q3, .ref q4, .ref q5, .ref q6, .ref q7] qn1, qs1⟩)
    (m2 : K.lookup q2 = some ⟨.type "tuple", qo2, .seq #[.int (-1) t2_0, .int (-1) t2_1] qn2, qs2⟩)
    (m3 : K.lookup q3 = some ⟨.type "tuple", qo3, .seq #[.int 0 t3_0, .int (-1) t3_1] qn3, qs3⟩)
    (m4 : K.lookup q4 = some ⟨.type "tuple", qo4, .seq #[.int 1 t4_0, .int 0 t4_1] qn4, qs4⟩)
    (m5 : K.lookup q5 = some ⟨.type "tuple", qo5, .seq #[.int 1 t5_0, .int 1 t5_1] qn5, qs5⟩)
    (m6 : K.lookup q6 = some ⟨.type "tuple", qo6, .seq #[.int 0 t6_0, .int 1 t6_1] qn6, qs6⟩)
    (m7 : K.lookup q7 = some ⟨.type "tuple", qo7, .seq #[.int (-1) t7_0, .int 0 t7_1] qn7, qs7⟩)
    (b_NEAR_MOVES : PySem.W.nsIn K mainGlobals "NEAR_MOVES" = some (some (.ref q8)))
    (m8 : K.lookup q8 = some ⟨.type "tuple", qo8, .seq #[.ref q9, .ref q10, .ref q11, .ref q12, .ref q13] qn8, qs8⟩)
    (m9 : K.lookup q9 = some ⟨.type "tuple", qo9, .seq #[.int 1 t9_0, .int 0 t9_1, .int 0 t9_2, .int 1 t9_3, .int 0 t9_4, .int 0 t9_5] qn9, qs9⟩)
    (m10 : K.lookup q10 = some ⟨.type "tuple", qo10, .seq #[.int 1 t10_0, .int 1 t10_1, .int 0 t10_2, .int 1 t10_3, .int 0 t10_4, .int 0 t10_5] qn10, qs10⟩)
    (m11 : K.lookup q11 = some ⟨.type "tuple", qo11, .seq #[.int 1 t11_0, .int (-1) t11_1, .int 0 t11_2, .int 1 t11_3, .int 0 t11_4, .int 0 t11_5] qn11, qs11⟩)
    (m12 : K.lookup q12 = some ⟨.type "tuple", qo12, .seq #[.int 1 t12_0, .int 1 t12_1, .int (-1) t12_2, .int 0 t12_3, .int 0 t12_4, .int 0 t12_5] qn12, qs12⟩)
    (m13 : K.lookup q13 = some ⟨.type "tuple", qo13, .seq #[.int 1 t13_0, .int 0 t13_1, .int (-1) t13_2, .int 1 t13_3, .int 0 t13_4, .int 0 t13_5] qn13, qs13⟩)
    (ga0 : PySem.W.nsIn K mainGlobals "EndlessGroup" = some (some (.ref Xx0)))
    (ga1 : PySem.W.nsIn K mainGlobals "EndlessOrder" = some (some (.ref Xx1)))
    (ga2 : PySem.W.nsIn K mainGlobals "GridError" = some (some (.ref Xx2)))
    (ga3 : PySem.W.nsIn K mainGlobals "NotFlippable" = some (some (.ref Xx3)))
    (ysup : PySem.W.nsIn K mainGlobals "super" = some none)
    (thr : PySem.W.nsIn K PySem.cStatics "thirdparty.any" = some none)
    (sgt : PySem.W.specialIn K (.builtin "object.__class__") "__get__" = some (some (.builtin "getset_descriptor.__get__")))
    (tkt : PySem.W.takesIn K (.builtin "object.__class__") = some true)
    (htop : (l.prog.main.scope.names.lookup ("super" : Str)).isSome = false)
    (xlx0 : K.lookup Xx0 = some (excClassObj nmx0 qnx0 Xx0 Nx0 bsx0 (.ref Ex0 :: tlx0) true snx0 sbx0 abx0 colx0 ddx0 k0x0 k1x0 k2x0 k3x0 k5x0 "ValueError.__new__"))
    (rvx0 : PySem.HandSPX.refsVE (.ref Ex0 :: tlx0) = true)
    (cex0 : PySem.W.clsIn K Ex0 = some ⟨nmEx0, bsEx0, .ref Ex0 :: tlx0, NEx0, qEx0, hdEx0, snEx0, sbEx0, abEx0, colEx0, dlEx0⟩)
    (fex0 : PySem.W.findIn K (.ref Ex0) "__init__" = some (some (.builtin "ValueError.__init__")))
    (iix0 : PySem.W.findIn K (.ref Xx0) "__init__" = some (some (.ref f_x0)))
    (tix0 : PySem.W.typeIn K (.ref f_x0) = some (.type "function"))
    (kpx0 : PySem.W.keepIn K (.ref Xx0) = true)
    (bex0 : PySem.W.subIn K (.ref Xx0) (.type "BaseException") = some true)
    (tyx0 : PySem.W.typeIn K (.ref Xx0) = some (.type "type"))
    (sax0 : PySem.W.findIn K (.ref Xx0) "__setattr__" = some (some (.builtin "object.__setattr__")))
    (svx0 : PySem.W.subIn K (.ref Xx0) (.type "ValueError") = some true)
    (mcx0 : PySem.W.mroIn K Xx0 (.ref Xx0) = some true)
    (ssx0 : PySem.W.subIn K (.ref Xx0) (.ref Xx0) = some true)
    (hdx0 : PySem.W.hasDictIn K Xx0 = true)
    (hgx0 : PySem.W.findIn K (.ref Xx0) "__getattribute__" = some (some (.builtin "BaseException.__getattribute__")))
    (hkx0 : PySem.W.findIn K (.ref Xx0) "__getattr__" = some none)
    (hax0 : PySem.W.findIn K (.ref Xx0) "__class__" = some (some (.builtin "object.__class__")))
    (mox0 : PySem.W.mroIn K Xx0 (.type "object") = some true)
    (fl_x0 : K.lookup f_x0 = some ⟨ocx0, odx0, .func (PySem.W.ksFn "__init__" "EndlessGroup.__init__" (PySem.Fx.iA0 ⟨15, 17, 15, 21⟩) (eB0 ⟨16, 8, 16, 13⟩ ⟨16, 8, 16, 15⟩ ⟨16, 8, 16, 24⟩ ⟨16, 25, 16, 47⟩ ⟨16, 8, 16, 48⟩ ⟨16, 8, 16, 48⟩ "the group is endless" 0) (PySem.Fx.iSc [("self", .local), ("__class__", .free), ("super", .globalImplicit)]) .none .none dcx0 pmx0 anx0 (.ref cdax0) ctx0 ccx0), slx0⟩)
    (cdix0 : PySem.W.codeIn K (.ref cdax0) "EndlessGroup.__init__" = true)
    (celx0 : K.lookup ccx0 = some ⟨clx0, cldx0, .cell (some (.ref Xx0)), cslx0⟩)
    (codx0 : K.lookup cdax0 = some ⟨cclx0, cddx0, .fields vsx0, ccsx0⟩)
    (v2x0 : vsx0[2]? = some (.str flx0 tfx0))
    (filx0 : ((l.prog.main.file : Str) == flx0) = true)
    (s_x0_x1 : PySem.W.subIn K (.ref Xx0) (.ref Xx1) = some false)
    (d_x0_x1 : PySem.W.hasDictIn K Xx1 = true)
    (t_x0_x1 : PySem.W.typeIn K (.ref Xx1) = some (.type "type"))
    (b_x0_x1 : PySem.W.subIn K (.ref Xx1) (.type "BaseException") = some true)
    (s_x0_x2 : PySem.W.subIn K (.ref Xx0) (.ref Xx2) = some true)
    (d_x0_x2 : PySem.W.hasDictIn K Xx2 = true)
    (t_x0_x2 : PySem.W.typeIn K (.ref Xx2) = some (.type "type"))
    (b_x0_x2 : PySem.W.subIn K (.ref Xx2) (.type "BaseException") = some true)
    (s_x0_x3 : PySem.W.subIn K (.ref Xx0) (.ref Xx3) = some false)
    (d_x0_x3 : PySem.W.hasDictIn K Xx3 = true)
    (t_x0_x3 : PySem.W.typeIn K (.ref Xx3) = some (.type "type"))
    (b_x0_x3 : PySem.W.subIn K (.ref Xx3) (.type "BaseException") = some true)
    (s_x0_x0 : PySem.W.subIn K (.ref Xx0) (.ref Xx0) = some true)
    (d_x0_x0 : PySem.W.hasDictIn K Xx0 = true)
    (t_x0_x0 : PySem.W.typeIn K (.ref Xx0) = some (.type "type"))
    (b_x0_x0 : PySem.W.subIn K (.ref Xx0) (.type "BaseException") = some true)
    (y_ValueError : PySem.W.nsIn K mainGlobals "ValueError" = some none)
    (y_abs : PySem.W.nsIn K mainGlobals "abs" = some none)
    (y_bool : PySem.W.nsIn K mainGlobals "bool" = some none)
    (y_int : PySem.W.nsIn K mainGlobals "int" = some none)
    (y_isinstance : PySem.W.nsIn K mainGlobals "isinstance" = some none)
    (y_len : PySem.W.nsIn K mainGlobals "len" = some none)
    (y_list : PySem.W.nsIn K mainGlobals "list" = some none)
    (y_max : PySem.W.nsIn K mainGlobals "max" = some none)
    (y_range : PySem.W.nsIn K mainGlobals "range" = some none)
    (y_repr : PySem.W.nsIn K mainGlobals "repr" = some none)
    (y_sorted : PySem.W.nsIn K mainGlobals "sorted" = some none)
    (y_str : PySem.W.nsIn K mainGlobals "str" = some none)
    (y_sum : PySem.W.nsIn K mainGlobals "sum" = some none)
    (y_tuple : PySem.W.nsIn K mainGlobals "tuple" = some none) :
    ∃ fd : FuncData, (∀ (s : Shared) (v : Value), BindsTo s fd ⟨[v], []⟩ [("script", v)]) ∧ ∀ base : Heap, K.In base → base.Ns mainGlobals mg → FnG l.prog w K mg base 29 fa fd ["script"] (spD K 1 f_law) := by
  have e : f45 = fa := by
    have z := (PySem.W.mg_of X G a45).symm.trans hfa
    injection z with z
    injection z
  subst e
  let T : Top l.prog K mg := {
    a_from_to := f0, fd_from_to := (PySem.W.fnOf "from_to" "from_to" (defArgs s_from_to) (defBody s_from_to) (defScope s_from_to) .none kV0 dc0 pm0 an0 cd0 ct0), F_from_to := fun_mk (st := s_from_to) l0 c0 k0, g_from_to := PySem.W.mg_of X G a0,
    B_from_to := (fun_mk (st := s_from_to) l0 c0 k0).binds fun _ _ _ _ _ _ us hl => match us, hl with | [_, _], _ => rfl,
    a_taken := f1, fd_taken := (PySem.W.fnOf "taken" "taken" (defArgs s_taken) (defBody s_taken) (defScope s_taken) .none kV1 dc1 pm1 an1 cd1 ct1), F_taken := fun_mk (st := s_taken) l1 c1 k1, g_taken := PySem.W.mg_of X G a1,
    B_taken := (fun_mk (st := s_taken) l1 c1 k1).binds fun _ _ _ _ _ _ us hl => match us, hl with | [_, _], _ => rfl,
    a_is_number := f2, fd_is_number := (PySem.W.fnOf "is_number" "is_number" (defArgs s_is_number) (defBody s_is_number) (defScope s_is_number) .none kV2 dc2 pm2 an2 cd2 ct2), F_is_number := fun_mk (st := s_is_number) l2 c2 k2, g_is_number := PySem.W.mg_of X G a2,
    B_is_number := (fun_mk (st := s_is_number) l2 c2 k2).binds fun _ _ _ _ _ _ us hl => match us, hl with | [_], _ => rfl,
    a_is_number_tuple := f3, fd_is_number_tuple := (PySem.W.fnOf "is_number_tuple" "is_number_tuple" (defArgs s_is_number_tuple) (defBody s_is_number_tuple) (defScope s_is_number_tuple) .none kV3 dc3 pm3 an3 cd3 ct3), F_is_number_tuple := fun_mk (st := s_is_number_tuple) l3 c3 k3, g_is_number_tuple := PySem.W.mg_of X G a3,
    B_is_number_tuple := (fun_mk (st := s_is_number_tuple) l3 c3 k3).binds fun _ _ _ _ _ _ us hl => match us, hl with | [_, _], _ => rfl,
    a_strength := f4, fd_strength := (PySem.W.fnOf "strength" "strength" (defArgs s_strength) (defBody s_strength) (defScope s_strength) .none kV4 dc4 pm4 an4 cd4 ct4), F_strength := fun_mk (st := s_strength) l4 c4 k4, g_strength := PySem.W.mg_of X G a4,
    B_strength := (fun_mk (st := s_strength) l4 c4 k4).binds fun _ _ _ _ _ _ us hl => match us, hl with | [_], _ => rfl,
    a_is_move := f5, fd_is_move := (PySem.W.fnOf "is_move" "is_move" (defArgs s_is_move) (defBody s_is_move) (defScope s_is_move) .none kV5 dc5 pm5 an5 cd5 ct5), F_is_move := fun_mk (st := s_is_move) l5 c5 k5, g_is_move := PySem.W.mg_of X G a5,
    B_is_move := (fun_mk (st := s_is_move) l5 c5 k5).binds fun _ _ _ _ _ _ us hl => match us, hl with | [_], _ => rfl,
    a_is_plain := f6, fd_is_plain := (PySem.W.fnOf "is_plain" "is_plain" (defArgs s_is_plain) (defBody s_is_plain) (defScope s_is_plain) .none kV6 dc6 pm6 an6 cd6 ct6), F_is_plain := fun_mk (st := s_is_plain) l6 c6 k6, g_is_plain := PySem.W.mg_of X G a6,
    B_is_plain := (fun_mk (st := s_is_plain) l6 c6 k6).binds fun _ _ _ _ _ _ us hl => match us, hl with | [_], _ => rfl,
    a_sent := f7, fd_sent := (PySem.W.fnOf "sent" "sent" (defArgs s_sent) (defBody s_sent) (defScope s_sent) .none kV7 dc7 pm7 an7 cd7 ct7), F_sent := fun_mk (st := s_sent) l7 c7 k7, g_sent := PySem.W.mg_of X G a7,
    B_sent := (fun_mk (st := s_sent) l7 c7 k7).binds fun _ _ _ _ _ _ us hl => match us, hl with | [_, _], _ => rfl,
    a_sent_vector := f8, fd_sent_vector := (PySem.W.fnOf "sent_vector" "sent_vector" (defArgs s_sent_vector) (defBody s_sent_vector) (defScope s_sent_vector) .none kV8 dc8 pm8 an8 cd8 ct8), F_sent_vector := fun_mk (st := s_sent_vector) l8 c8 k8, g_sent_vector := PySem.W.mg_of X G a8,
    B_sent_vector := (fun_mk (st := s_sent_vector) l8 c8 k8).binds fun _ _ _ _ _ _ us hl => match us, hl with | [_, _], _ => rfl,
    a_after := f9, fd_after := (PySem.W.fnOf "after" "after" (defArgs s_after) (defBody s_after) (defScope s_after) .none kV9 dc9 pm9 an9 cd9 ct9), F_after := fun_mk (st := s_after) l9 c9 k9, g_after := PySem.W.mg_of X G a9,
    B_after := (fun_mk (st := s_after) l9 c9 k9).binds fun _ _ _ _ _ _ us hl => match us, hl with | [_, _], _ => rfl,
    a_undoing := f10, fd_undoing := (PySem.W.fnOf "undoing" "undoing" (defArgs s_undoing) (defBody s_undoing) (defScope s_undoing) .none kV10 dc10 pm10 an10 cd10 ct10), F_undoing := fun_mk (st := s_undoing) l10 c10 k10, g_undoing := PySem.W.mg_of X G a10,
    B_undoing := (fun_mk (st := s_undoing) l10 c10 k10).binds fun _ _ _ _ _ _ us hl => match us, hl with | [_], _ => rfl,
    a_nearest := f11, fd_nearest := (PySem.W.fnOf "nearest" "nearest" (defArgs s_nearest) (defBody s_nearest) (defScope s_nearest) .none kV11 dc11 pm11 an11 cd11 ct11), F_nearest := fun_mk (st := s_nearest) l11 c11 k11, g_nearest := PySem.W.mg_of X G a11,
    B_nearest := (fun_mk (st := s_nearest) l11 c11 k11).binds fun _ _ _ _ _ _ us hl => match us, hl with | [_, _], _ => rfl,
    a_form_of := f12, fd_form_of := (PySem.W.fnOf "form_of" "form_of" (defArgs s_form_of) (defBody s_form_of) (defScope s_form_of) .none kV12 dc12 pm12 an12 cd12 ct12), F_form_of := fun_mk (st := s_form_of) l12 c12 k12, g_form_of := PySem.W.mg_of X G a12,
    B_form_of := (fun_mk (st := s_form_of) l12 c12 k12).binds fun _ _ _ _ _ _ us hl => match us, hl with | [_], _ => rfl,
    a_mixed_value := f13, fd_mixed_value := (PySem.W.fnOf "mixed_value" "mixed_value" (defArgs s_mixed_value) (defBody s_mixed_value) (defScope s_mixed_value) .none kV13 dc13 pm13 an13 cd13 ct13), F_mixed_value := fun_mk (st := s_mixed_value) l13 c13 k13, g_mixed_value := PySem.W.mg_of X G a13,
    B_mixed_value := (fun_mk (st := s_mixed_value) l13 c13 k13).binds fun _ _ _ _ _ _ us hl => match us, hl with | [_, _, _], _ => rfl,
    a_straightened := f14, fd_straightened := (PySem.W.fnOf "straightened" "straightened" (defArgs s_straightened) (defBody s_straightened) (defScope s_straightened) .none kV14 dc14 pm14 an14 cd14 ct14), F_straightened := fun_mk (st := s_straightened) l14 c14 k14, g_straightened := PySem.W.mg_of X G a14,
    B_straightened := (fun_mk (st := s_straightened) l14 c14 k14).binds fun _ _ _ _ _ _ us hl => match us, hl with | [_, _, _], _ => rfl,
    a_least_basis := f15, fd_least_basis := (PySem.W.fnOf "least_basis" "least_basis" (defArgs s_least_basis) (defBody s_least_basis) (defScope s_least_basis) .none kV15 dc15 pm15 an15 cd15 ct15), F_least_basis := fun_mk (st := s_least_basis) l15 c15 k15, g_least_basis := PySem.W.mg_of X G a15,
    B_least_basis := (fun_mk (st := s_least_basis) l15 c15 k15).binds fun _ _ _ _ _ _ us hl => match us, hl with | [_], _ => rfl,
    a_settling := f16, fd_settling := (PySem.W.fnOf "settling" "settling" (defArgs s_settling) (defBody s_settling) (defScope s_settling) .none kV16 dc16 pm16 an16 cd16 ct16), F_settling := fun_mk (st := s_settling) l16 c16 k16, g_settling := PySem.W.mg_of X G a16,
    B_settling := (fun_mk (st := s_settling) l16 c16 k16).binds fun _ _ _ _ _ _ us hl => match us, hl with | [_], _ => rfl,
    a_group_of := f17, fd_group_of := (PySem.W.fnOf "group_of" "group_of" (defArgs s_group_of) (defBody s_group_of) (defScope s_group_of) .none kV17 dc17 pm17 an17 cd17 ct17), F_group_of := fun_mk (st := s_group_of) l17 c17 k17, g_group_of := PySem.W.mg_of X G a17,
    B_group_of := (fun_mk (st := s_group_of) l17 c17 k17).binds fun _ _ _ _ _ _ us hl => match us, hl with | [_], _ => rfl,
    a_keeps_square := f18, fd_keeps_square := (PySem.W.fnOf "keeps_square" "keeps_square" (defArgs s_keeps_square) (defBody s_keeps_square) (defScope s_keeps_square) .none kV18 dc18 pm18 an18 cd18 ct18), F_keeps_square := fun_mk (st := s_keeps_square) l18 c18 k18, g_keeps_square := PySem.W.mg_of X G a18,
    B_keeps_square := (fun_mk (st := s_keeps_square) l18 c18 k18).binds fun _ _ _ _ _ _ us hl => match us, hl with | [_], _ => rfl,
    a_keeps_hexagon := f19, fd_keeps_hexagon := (PySem.W.fnOf "keeps_hexagon" "keeps_hexagon" (defArgs s_keeps_hexagon) (defBody s_keeps_hexagon) (defScope s_keeps_hexagon) .none kV19 dc19 pm19 an19 cd19 ct19), F_keeps_hexagon := fun_mk (st := s_keeps_hexagon) l19 c19 k19, g_keeps_hexagon := PySem.W.mg_of X G a19,
    B_keeps_hexagon := (fun_mk (st := s_keeps_hexagon) l19 c19 k19).binds fun _ _ _ _ _ _ us hl => match us, hl with | [_], _ => rfl,
    a_made_by := f20, fd_made_by := (PySem.W.fnOf "made_by" "made_by" (defArgs s_made_by) (defBody s_made_by) (defScope s_made_by) .none kV20 dc20 pm20 an20 cd20 ct20), F_made_by := fun_mk (st := s_made_by) l20 c20 k20, g_made_by := PySem.W.mg_of X G a20,
    B_made_by := (fun_mk (st := s_made_by) l20 c20 k20).binds fun _ _ _ _ _ _ us hl => match us, hl with | [_, _], _ => rfl,
    a_shows_standard := f21, fd_shows_standard := (PySem.W.fnOf "shows_standard" "shows_standard" (defArgs s_shows_standard) (defBody s_shows_standard) (defScope s_shows_standard) .none kV21 dc21 pm21 an21 cd21 ct21), F_shows_standard := fun_mk (st := s_shows_standard) l21 c21 k21, g_shows_standard := PySem.W.mg_of X G a21,
    B_shows_standard := (fun_mk (st := s_shows_standard) l21 c21 k21).binds fun _ _ _ _ _ _ us hl => match us, hl with | [_, _, _], _ => rfl,
    a_standard_group := f22, fd_standard_group := (PySem.W.fnOf "standard_group" "standard_group" (defArgs s_standard_group) (defBody s_standard_group) (defScope s_standard_group) .none kV22 dc22 pm22 an22 cd22 ct22), F_standard_group := fun_mk (st := s_standard_group) l22 c22 k22, g_standard_group := PySem.W.mg_of X G a22,
    B_standard_group := (fun_mk (st := s_standard_group) l22 c22 k22).binds fun _ _ _ _ _ _ us hl => match us, hl with | [_], _ => rfl,
    a__law_draws := f23, fd__law_draws := (PySem.W.fnOf "_law_draws" "_law_draws" (defArgs s__law_draws) (defBody s__law_draws) (defScope s__law_draws) .none kV23 dc23 pm23 an23 cd23 ct23), F__law_draws := fun_mk (st := s__law_draws) l23 c23 k23, g__law_draws := PySem.W.mg_of X G a23,
    B__law_draws := (fun_mk (st := s__law_draws) l23 c23 k23).binds fun _ _ _ _ _ _ us hl => match us, hl with | [_, _], _ => rfl,
    a__law_is_number := f24, fd__law_is_number := (PySem.W.fnOf "_law_is_number" "_law_is_number" (defArgs s__law_is_number) (defBody s__law_is_number) (defScope s__law_is_number) .none kV24 dc24 pm24 an24 cd24 ct24), F__law_is_number := fun_mk (st := s__law_is_number) l24 c24 k24, g__law_is_number := PySem.W.mg_of X G a24,
    B__law_is_number := (fun_mk (st := s__law_is_number) l24 c24 k24).binds fun _ _ _ _ _ _ us hl => match us, hl with | [_], _ => rfl,
    a__law_same := f25, fd__law_same := (PySem.W.fnOf "_law_same" "_law_same" (defArgs s__law_same) (defBody s__law_same) (defScope s__law_same) .none kV25 dc25 pm25 an25 cd25 ct25), F__law_same := fun_mk (st := s__law_same) l25 c25 k25, g__law_same := PySem.W.mg_of X G a25,
    B__law_same := (fun_mk (st := s__law_same) l25 c25 k25).binds fun _ _ _ _ _ _ us hl => match us, hl with | [_, _], _ => rfl,
    a__law_even := f26, fd__law_even := (PySem.W.fnOf "_law_even" "_law_even" (defArgs s__law_even) (defBody s__law_even) (defScope s__law_even) .none kV26 dc26 pm26 an26 cd26 ct26), F__law_even := fun_mk (st := s__law_even) l26 c26 k26, g__law_even := PySem.W.mg_of X G a26,
    B__law_even := (fun_mk (st := s__law_even) l26 c26 k26).binds fun _ _ _ _ _ _ us hl => match us, hl with | [_, _, _, _], _ => rfl,
    a__law_times := f27, fd__law_times := (PySem.W.fnOf "_law_times" "_law_times" (defArgs s__law_times) (defBody s__law_times) (defScope s__law_times) .none kV27 dc27 pm27 an27 cd27 ct27), F__law_times := fun_mk (st := s__law_times) l27 c27 k27, g__law_times := PySem.W.mg_of X G a27,
    B__law_times := (fun_mk (st := s__law_times) l27 c27 k27).binds fun _ _ _ _ _ _ us hl => match us, hl with | [_, _], _ => rfl,
    a__law_by := f28, fd__law_by := (PySem.W.fnOf "_law_by" "_law_by" (defArgs s__law_by) (defBody s__law_by) (defScope s__law_by) .none kV28 dc28 pm28 an28 cd28 ct28), F__law_by := fun_mk (st := s__law_by) l28 c28 k28, g__law_by := PySem.W.mg_of X G a28,
    B__law_by := (fun_mk (st := s__law_by) l28 c28 k28).binds fun _ _ _ _ _ _ us hl => match us, hl with | [_, _], _ => rfl,
    a__law_keeps := f29, fd__law_keeps := (PySem.W.fnOf "_law_keeps" "_law_keeps" (defArgs s__law_keeps) (defBody s__law_keeps) (defScope s__law_keeps) .none kV29 dc29 pm29 an29 cd29 ct29), F__law_keeps := fun_mk (st := s__law_keeps) l29 c29 k29, g__law_keeps := PySem.W.mg_of X G a29,
    B__law_keeps := (fun_mk (st := s__law_keeps) l29 c29 k29).binds fun _ _ _ _ _ _ us hl => match us, hl with | [_, _], _ => rfl,
    a__law_keeping := f30, fd__law_keeping := (PySem.W.fnOf "_law_keeping" "_law_keeping" (defArgs s__law_keeping) (defBody s__law_keeping) (defScope s__law_keeping) .none kV30 dc30 pm30 an30 cd30 ct30), F__law_keeping := fun_mk (st := s__law_keeping) l30 c30 k30, g__law_keeping := PySem.W.mg_of X G a30,
    B__law_keeping := (fun_mk (st := s__law_keeping) l30 c30 k30).binds fun _ _ _ _ _ _ us hl => match us, hl with | [_], _ => rfl,
    a__law_plain := f31, fd__law_plain := (PySem.W.fnOf "_law_plain" "_law_plain" (defArgs s__law_plain) (defBody s__law_plain) (defScope s__law_plain) .none kV31 dc31 pm31 an31 cd31 ct31), F__law_plain := fun_mk (st := s__law_plain) l31 c31 k31, g__law_plain := PySem.W.mg_of X G a31,
    B__law_plain := (fun_mk (st := s__law_plain) l31 c31 k31).binds fun _ _ _ _ _ _ us hl => match us, hl with | [_], _ => rfl,
    a__law_closed := f32, fd__law_closed := (PySem.W.fnOf "_law_closed" "_law_closed" (defArgs s__law_closed) (defBody s__law_closed) (defScope s__law_closed) .none kV32 dc32 pm32 an32 cd32 ct32), F__law_closed := fun_mk (st := s__law_closed) l32 c32 k32, g__law_closed := PySem.W.mg_of X G a32,
    B__law_closed := (fun_mk (st := s__law_closed) l32 c32 k32).binds fun _ _ _ _ _ _ us hl => match us, hl with | [_], _ => rfl,
    a__law_placed_moves := f33, fd__law_placed_moves := (PySem.W.fnOf "_law_placed_moves" "_law_placed_moves" (defArgs s__law_placed_moves) (defBody s__law_placed_moves) (defScope s__law_placed_moves) .none kV33 dc33 pm33 an33 cd33 ct33), F__law_placed_moves := fun_mk (st := s__law_placed_moves) l33 c33 k33, g__law_placed_moves := PySem.W.mg_of X G a33,
    B__law_placed_moves := (fun_mk (st := s__law_placed_moves) l33 c33 k33).binds fun _ _ _ _ _ _ us hl => match us, hl with | [_, _], _ => rfl,
    a__law_world := f34, fd__law_world := (PySem.W.fnOf "_law_world" "_law_world" (defArgs s__law_world) (defBody s__law_world) (defScope s__law_world) .none kV34 dc34 pm34 an34 cd34 ct34), F__law_world := fun_mk (st := s__law_world) l34 c34 k34, g__law_world := PySem.W.mg_of X G a34,
    B__law_world := (fun_mk (st := s__law_world) l34 c34 k34).binds fun _ _ _ _ _ _ us hl => match us, hl with | [_], _ => rfl,
    a__law_told := f35, fd__law_told := (PySem.W.fnOf "_law_told" "_law_told" (defArgs s__law_told) (defBody s__law_told) (defScope s__law_told) .none kV35 dc35 pm35 an35 cd35 ct35), F__law_told := fun_mk (st := s__law_told) l35 c35 k35, g__law_told := PySem.W.mg_of X G a35,
    B__law_told := (fun_mk (st := s__law_told) l35 c35 k35).binds fun _ _ _ _ _ _ us hl => match us, hl with | [_], _ => rfl,
    a__law_part_one := f36, fd__law_part_one := (PySem.W.fnOf "_law_part_one" "_law_part_one" (defArgs s__law_part_one) (defBody s__law_part_one) (defScope s__law_part_one) .none kV36 dc36 pm36 an36 cd36 ct36), F__law_part_one := fun_mk (st := s__law_part_one) l36 c36 k36, g__law_part_one := PySem.W.mg_of X G a36,
    B__law_part_one := (fun_mk (st := s__law_part_one) l36 c36 k36).binds fun _ _ _ _ _ _ us hl => match us, hl with | [_], _ => rfl,
    a__law_is_tuple := f37, fd__law_is_tuple := (PySem.W.fnOf "_law_is_tuple" "_law_is_tuple" (defArgs s__law_is_tuple) (defBody s__law_is_tuple) (defScope s__law_is_tuple) .none kV37 dc37 pm37 an37 cd37 ct37), F__law_is_tuple := fun_mk (st := s__law_is_tuple) l37 c37 k37, g__law_is_tuple := PySem.W.mg_of X G a37,
    B__law_is_tuple := (fun_mk (st := s__law_is_tuple) l37 c37 k37).binds fun _ _ _ _ _ _ us hl => match us, hl with | [_, _], _ => rfl,
    a__law_fresh := f38, fd__law_fresh := (PySem.W.fnOf "_law_fresh" "_law_fresh" (defArgs s__law_fresh) (defBody s__law_fresh) (defScope s__law_fresh) .none kV38 dc38 pm38 an38 cd38 ct38), F__law_fresh := fun_mk (st := s__law_fresh) l38 c38 k38, g__law_fresh := PySem.W.mg_of X G a38,
    B__law_fresh := (fun_mk (st := s__law_fresh) l38 c38 k38).binds fun _ _ _ _ _ _ us hl => match us, hl with | [_], _ => rfl,
    a__law_square_fits := f39, fd__law_square_fits := (PySem.W.fnOf "_law_square_fits" "_law_square_fits" (defArgs s__law_square_fits) (defBody s__law_square_fits) (defScope s__law_square_fits) .none kV39 dc39 pm39 an39 cd39 ct39), F__law_square_fits := fun_mk (st := s__law_square_fits) l39 c39 k39, g__law_square_fits := PySem.W.mg_of X G a39,
    B__law_square_fits := (fun_mk (st := s__law_square_fits) l39 c39 k39).binds fun _ _ _ _ _ _ us hl => match us, hl with | [_, _, _], _ => rfl,
    a__law_right_standard := f40, fd__law_right_standard := (PySem.W.fnOf "_law_right_standard" "_law_right_standard" (defArgs s__law_right_standard) (defBody s__law_right_standard) (defScope s__law_right_standard) .none kV40 dc40 pm40 an40 cd40 ct40), F__law_right_standard := fun_mk (st := s__law_right_standard) l40 c40 k40, g__law_right_standard := PySem.W.mg_of X G a40,
    B__law_right_standard := (fun_mk (st := s__law_right_standard) l40 c40 k40).binds fun _ _ _ _ _ _ us hl => match us, hl with | [_, _, _], _ => rfl,
    a__law_judged := f41, fd__law_judged := (PySem.W.fnOf "_law_judged" "_law_judged" (defArgs s__law_judged) (defBody s__law_judged) (defScope s__law_judged) .none kV41 dc41 pm41 an41 cd41 ct41), F__law_judged := fun_mk (st := s__law_judged) l41 c41 k41, g__law_judged := PySem.W.mg_of X G a41,
    B__law_judged := (fun_mk (st := s__law_judged) l41 c41 k41).binds fun _ _ _ _ _ _ us hl => match us, hl with | [_, _], _ => rfl,
    a__law_told_two := f42, fd__law_told_two := (PySem.W.fnOf "_law_told_two" "_law_told_two" (defArgs s__law_told_two) (defBody s__law_told_two) (defScope s__law_told_two) .none kV42 dc42 pm42 an42 cd42 ct42), F__law_told_two := fun_mk (st := s__law_told_two) l42 c42 k42, g__law_told_two := PySem.W.mg_of X G a42,
    B__law_told_two := (fun_mk (st := s__law_told_two) l42 c42 k42).binds fun _ _ _ _ _ _ us hl => match us, hl with | [_], _ => rfl,
    a__law_pairs := f43, fd__law_pairs := (PySem.W.fnOf "_law_pairs" "_law_pairs" (defArgs s__law_pairs) (defBody s__law_pairs) (defScope s__law_pairs) .none kV43 dc43 pm43 an43 cd43 ct43), F__law_pairs := fun_mk (st := s__law_pairs) l43 c43 k43, g__law_pairs := PySem.W.mg_of X G a43,
    B__law_pairs := (fun_mk (st := s__law_pairs) l43 c43 k43).binds fun _ _ _ _ _ _ us hl => match us, hl with | [_, _, _], _ => rfl,
    a__law_part_two := f44, fd__law_part_two := (PySem.W.fnOf "_law_part_two" "_law_part_two" (defArgs s__law_part_two) (defBody s__law_part_two) (defScope s__law_part_two) .none kV44 dc44 pm44 an44 cd44 ct44), F__law_part_two := fun_mk (st := s__law_part_two) l44 c44 k44, g__law_part_two := PySem.W.mg_of X G a44,
    B__law_part_two := (fun_mk (st := s__law_part_two) l44 c44 k44).binds fun _ _ _ _ _ _ us hl => match us, hl with | [_], _ => rfl,
    a_law := f45, fd_law := (PySem.W.fnOf "law" "law" (defArgs s_law) (defBody s_law) (defScope s_law) .none kV45 dc45 pm45 an45 cd45 ct45), F_law := fun_mk (st := s_law) l45 c45 k45, g_law := PySem.W.mg_of X G a45,
    B_law := (fun_mk (st := s_law) l45 c45 k45).binds fun _ _ _ _ _ _ us hl => match us, hl with | [_], _ => rfl,
    a_REST := q0, g_REST := PySem.W.mg_of X G b_REST, d_REST := fun H => by unfold c_REST; exact (.tup (.inr ⟨_, _, _, m0, rfl, rfl, (by show 6 ≤ sizeLine; decide), (.cons (show RelV (.int 1) _ from ⟨_, rfl⟩) (.cons (show RelV (.int 0) _ from ⟨_, rfl⟩) (.cons (show RelV (.int 0) _ from ⟨_, rfl⟩) (.cons (show RelV (.int 1) _ from ⟨_, rfl⟩) (.cons (show RelV (.int 0) _ from ⟨_, rfl⟩) (.cons (show RelV (.int 0) _ from ⟨_, rfl⟩) Paired.nil))))))⟩) (.cons (.int _) (.cons (.int _) (.cons (.int _) (.cons (.int _) (.cons (.int _) (.cons (.int _) DpAll.nil))))))),
    t_MOST := u_MOST, g_MOST := PySem.W.mg_of X G b_MOST,
    a_HEXAGON := q1, g_HEXAGON := PySem.W.mg_of X G b_HEXAGON, d_HEXAGON := fun H => by unfold c_HEXAGON; exact (.tup (.inr ⟨_, _, _, m1, rfl, rfl, (by show 6 ≤ sizeLine; decide), (.cons (show RelV (.ref _) _ from rfl) (.cons (show RelV (.ref _) _ from rfl) (.cons (show RelV (.ref _) _ from rfl) (.cons (show RelV (.ref _) _ from rfl) (.cons (show RelV (.ref _) _ from rfl) (.cons (show RelV (.ref _) _ from rfl) Paired.nil))))))⟩) (.cons (.tup (.inr ⟨_, _, _, m2, rfl, rfl, (by show 2 ≤ sizeLine; decide), (.cons (show RelV (.int (-1)) _ from ⟨_, rfl⟩) (.cons (show RelV (.int (-1)) _ from ⟨_, rfl⟩) Paired.nil))⟩) (.cons (.int _) (.cons (.int _) DpAll.nil))) (.cons (.tup (.inr ⟨_, _, _, m3, rfl, rfl, (by show 2 ≤ sizeLine; decide), (.cons (show RelV (.int 0) _ from ⟨_, rfl⟩) (.cons (show RelV (.int (-1)) _ from ⟨_, rfl⟩) Paired.nil))⟩) (.cons (.int _) (.cons (.int _) DpAll.nil))) (.cons (.tup (.inr ⟨_, _, _, m4, rfl, rfl, (by show 2 ≤ sizeLine; decide), (.cons (show RelV (.int 1) _ from ⟨_, rfl⟩) (.cons (show RelV (.int 0) _ from ⟨_, rfl⟩) Paired.nil))⟩) (.cons (.int _) (.cons (.int _) DpAll.nil))) (.cons (.tup (.inr ⟨_, _, _, m5, rfl, rfl, (by show 2 ≤ sizeLine; decide), (.cons (show RelV (.int 1) _ from ⟨_, rfl⟩) (.cons (show RelV (.int 1) _ from ⟨_, rfl⟩) Paired.nil))⟩) (.cons (.int _) (.cons (.int _) DpAll.nil))) (.cons (.tup (.inr ⟨_, _, _, m6, rfl, rfl, (by show 2 ≤ sizeLine; decide), (.cons (show RelV (.int 0) _ from ⟨_, rfl⟩) (.cons (show RelV (.int 1) _ from ⟨_, rfl⟩) Paired.nil))⟩) (.cons (.int _) (.cons (.int _) DpAll.nil))) (.cons (.tup (.inr ⟨_, _, _, m7, rfl, rfl, (by show 2 ≤ sizeLine; decide), (.cons (show RelV (.int (-1)) _ from ⟨_, rfl⟩) (.cons (show RelV (.int 0) _ from ⟨_, rfl⟩) Paired.nil))⟩) (.cons (.int _) (.cons (.int _) DpAll.nil))) DpAll.nil))))))),
    a_NEAR_MOVES := q8, g_NEAR_MOVES := PySem.W.mg_of X G b_NEAR_MOVES, d_NEAR_MOVES := fun H => by unfold c_NEAR_MOVES; exact (.tup (.inr ⟨_, _, _, m8, rfl, rfl, (by show 5 ≤ sizeLine; decide), (.cons (show RelV (.ref _) _ from rfl) (.cons (show RelV (.ref _) _ from rfl) (.cons (show RelV (.ref _) _ from rfl) (.cons (show RelV (.ref _) _ from rfl) (.cons (show RelV (.ref _) _ from rfl) Paired.nil)))))⟩) (.cons (.tup (.inr ⟨_, _, _, m9, rfl, rfl, (by show 6 ≤ sizeLine; decide), (.cons (show RelV (.int 1) _ from ⟨_, rfl⟩) (.cons (show RelV (.int 0) _ from ⟨_, rfl⟩) (.cons (show RelV (.int 0) _ from ⟨_, rfl⟩) (.cons (show RelV (.int 1) _ from ⟨_, rfl⟩) (.cons (show RelV (.int 0) _ from ⟨_, rfl⟩) (.cons (show RelV (.int 0) _ from ⟨_, rfl⟩) Paired.nil))))))⟩) (.cons (.int _) (.cons (.int _) (.cons (.int _) (.cons (.int _) (.cons (.int _) (.cons (.int _) DpAll.nil))))))) (.cons (.tup (.inr ⟨_, _, _, m10, rfl, rfl, (by show 6 ≤ sizeLine; decide), (.cons (show RelV (.int 1) _ from ⟨_, rfl⟩) (.cons (show RelV (.int 1) _ from ⟨_, rfl⟩) (.cons (show RelV (.int 0) _ from ⟨_, rfl⟩) (.cons (show RelV (.int 1) _ from ⟨_, rfl⟩) (.cons (show RelV (.int 0) _ from ⟨_, rfl⟩) (.cons (show RelV (.int 0) _ from ⟨_, rfl⟩) Paired.nil))))))⟩) (.cons (.int _) (.cons (.int _) (.cons (.int _) (.cons (.int _) (.cons (.int _) (.cons (.int _) DpAll.nil))))))) (.cons (.tup (.inr ⟨_, _, _, m11, rfl, rfl, (by show 6 ≤ sizeLine; decide), (.cons (show RelV (.int 1) _ from ⟨_, rfl⟩) (.cons (show RelV (.int (-1)) _ from ⟨_, rfl⟩) (.cons (show RelV (.int 0) _ from ⟨_, rfl⟩) (.cons (show RelV (.int 1) _ from ⟨_, rfl⟩) (.cons (show RelV (.int 0) _ from ⟨_, rfl⟩) (.cons (show RelV (.int 0) _ from ⟨_, rfl⟩) Paired.nil))))))⟩) (.cons (.int _) (.cons (.int _) (.cons (.int _) (.cons (.int _) (.cons (.int _) (.cons (.int _) DpAll.nil))))))) (.cons (.tup (.inr ⟨_, _, _, m12, rfl, rfl, (by show 6 ≤ sizeLine; decide), (.cons (show RelV (.int 1) _ from ⟨_, rfl⟩) (.cons (show RelV (.int 1) _ from ⟨_, rfl⟩) (.cons (show RelV (.int (-1)) _ from ⟨_, rfl⟩) (.cons (show RelV (.int 0) _ from ⟨_, rfl⟩) (.cons (show RelV (.int 0) _ from ⟨_, rfl⟩) (.cons (show RelV (.int 0) _ from ⟨_, rfl⟩) Paired.nil))))))⟩) (.cons (.int _) (.cons (.int _) (.cons (.int _) (.cons (.int _) (.cons (.int _) (.cons (.int _) DpAll.nil))))))) (.cons (.tup (.inr ⟨_, _, _, m13, rfl, rfl, (by show 6 ≤ sizeLine; decide), (.cons (show RelV (.int 1) _ from ⟨_, rfl⟩) (.cons (show RelV (.int 0) _ from ⟨_, rfl⟩) (.cons (show RelV (.int (-1)) _ from ⟨_, rfl⟩) (.cons (show RelV (.int 1) _ from ⟨_, rfl⟩) (.cons (show RelV (.int 0) _ from ⟨_, rfl⟩) (.cons (show RelV (.int 0) _ from ⟨_, rfl⟩) Paired.nil))))))⟩) (.cons (.int _) (.cons (.int _) (.cons (.int _) (.cons (.int _) (.cons (.int _) (.cons (.int _) DpAll.nil))))))) DpAll.nil)))))),
    x_EndlessGroup := Xx0, g_EndlessGroup := PySem.W.mg_of X G ga0,
    x_EndlessOrder := Xx1, g_EndlessOrder := PySem.W.mg_of X G ga1,
    x_GridError := Xx2, g_GridError := PySem.W.mg_of X G ga2,
    x_NotFlippable := Xx3, g_NotFlippable := PySem.W.mg_of X G ga3,
    z_super := PySem.W.mg_none_of X G ysup,
    X_EndlessGroup := ⟨⟨f_x0, _, _, _, _, _, _, _, _, _, _, _, { cls := ⟨_, _, _, _, _, _, _, _, _, _, _, _, _, _, _, xlx0, rvx0⟩, iC := iix0, tC := tix0, kC := kpx0, exC := bex0, tyC := tyx0, sa := sax0, sup := sup_of (show PySem.W.clsIn K Xx0 = some { name := nmx0, bases := bsx0, mro := .ref Xx0 :: .ref Ex0 :: tlx0, ns := Nx0, qualname := qnx0, hasDict := true, slotNames := snx0, subclasses := sbx0, abstract := abx0, collection := colx0, hasDel := false } from by unfold PySem.W.clsIn; rw [xlx0] <;> rfl) rfl cex0 rfl fex0, subV := svx0, subC := mcx0, third := thr, fn := ⟨_, _, _, _, _, _, _, _, _, _, _, _, _, _, _, _, _, _, fl_x0, cdix0, celx0, codx0, v2x0, filx0⟩, htop := htop }, rfl, rfl, rfl, by decide, by decide⟩⟩,
    C_EndlessGroup := ⟨hgx0, hkx0, bex0, hdx0, hax0, sgt, tkt, mox0⟩,
    k_EndlessGroup_EndlessOrder := kit_ref d_x0_x1 t_x0_x1 s_x0_x1 ssx0,
    k_EndlessGroup_GridError := kit_ref d_x0_x2 t_x0_x2 s_x0_x2 ssx0,
    k_EndlessGroup_NotFlippable := kit_ref d_x0_x3 t_x0_x3 s_x0_x3 ssx0,
    k_EndlessGroup_ValueError := kit_ve svx0,
    m_EndlessGroup_EndlessGroup := PySem.W.exm_ref b_x0_x0 d_x0_x0 t_x0_x0 s_x0_x0,
    z_ValueError := PySem.W.mg_none_of X G y_ValueError,
    z_abs := PySem.W.mg_none_of X G y_abs,
    z_bool := PySem.W.mg_none_of X G y_bool,
    z_int := PySem.W.mg_none_of X G y_int,
    z_isinstance := PySem.W.mg_none_of X G y_isinstance,
    z_len := PySem.W.mg_none_of X G y_len,
    z_list := PySem.W.mg_none_of X G y_list,
    z_max := PySem.W.mg_none_of X G y_max,
    z_range := PySem.W.mg_none_of X G y_range,
    z_repr := PySem.W.mg_none_of X G y_repr,
    z_sorted := PySem.W.mg_none_of X G y_sorted,
    z_str := PySem.W.mg_none_of X G y_str,
    z_sum := PySem.W.mg_none_of X G y_sum,
    z_tuple := PySem.W.mg_none_of X G y_tuple }
  exact ⟨T.fd_law, fun s v => .of_eq rfl, fun base _ _ => ok_law T⟩
theorem off_nil (H : Hp) : off H [] = H := by
  funext b
  exact if_neg (by simp)
theorem start_law (K : PySem.W.Frag) (H : Hp) (a : Addr) (ns : List Int) (hl : ns.length ≤ 63) (hS : SqL K H a (ns.map V.int)) : spD K 1 f_law [.ref a] H (fun v _ => v = .bl true) E0 :=
  ⟨rfl, [.list (ns.map .int)], .sh (.bool true), [], (fun _ z => nomatch z), by rw [off_nil]; exact .cons (.lst hS (dpa_ints ns)) .nil, law_data ns hl, fun v H' _ z => z.to_bool⟩
end Lk77
open PySem PySem.W PyProof.Rows
set_option maxHeartbeats 0 in
theorem PySem.Challenge.cw_gridplots_k77_groups_of_moves_holds : PySem.Challenge.rw_gridplots_k77_groups_of_moves.Holds := by
  w_on; o_law; k_head; (case hw => w_witness2)
  k_fill
  refine F3.walkG (l := PySem.Challenge.rw_gridplots_k77_groups_of_moves) (n := 63) (k := 29) (x := "script") (sp := fun w => F3.spD _ 1 Lk77.f_law) rfl (by decide) rfl ⟨rfl, by decide, by decide⟩ (fun w h Y => PySem.W.kIn_of Y) ?F (fun _ H a ns hl _ hS => Lk77.start_law _ H a ns hl hS)
  case F =>
    intro w mg fa h KX G hmg
    refine' Lk77.all_mk KX G hmg ?a0 ?l0 ?c0 ?k0 ?a1 ?l1 ?c1 ?k1 ?a2 ?l2 ?c2 ?k2 ?a3 ?l3 ?c3 ?k3 ?a4 ?l4 ?c4 ?k4 ?a5 ?l5 ?c5 ?k5 ?a6 ?l6 ?c6 ?k6 ?a7 ?l7 ?c7 ?k7 ?a8 ?l8 ?c8 ?k8 ?a9 ?l9 ?c9 ?k9 ?a10 ?l10 ?c10 ?k10 ?a11 ?l11 ?c11 ?k11 ?a12 ?l12 ?c12 ?k12 ?a13 ?l13 ?c13 ?k13 ?a14 ?l14 ?c14 ?k14 ?a15 ?l15 ?c15 ?k15 ?a16 ?l16 ?c16 ?k16 ?a17 ?l17 ?c17 ?k17 ?a18 ?l18 ?c18 ?k18 ?a19 ?l19 ?c19 ?k19 ?a20 ?l20 ?c20 ?k20 ?a21 ?l21 ?c21 ?k21 ?a22 ?l22 ?c22 ?k22 ?a23 ?l23 ?c23 ?k23 ?a24 ?l24 ?c24 ?k24 ?a25 ?l25 ?c25 ?k25 ?a26 ?l26 ?c26 ?k26 ?a27 ?l27 ?c27 ?k27 ?a28 ?l28 ?c28 ?k28 ?a29 ?l29 ?c29 ?k29 ?a30 ?l30 ?c30 ?k30 ?a31 ?l31 ?c31 ?k31 ?a32 ?l32 ?c32 ?k32 ?a33 ?l33 ?c33 ?k33 ?a34 ?l34 ?c34 ?k34 ?a35 ?l35 ?c35 ?k35 ?a36 ?l36 ?c36 ?k36 ?a37 ?l37 ?c37 ?k37 ?a38 ?l38 ?c38 ?k38 ?a39 ?l39 ?c39 ?k39 ?a40 ?l40 ?c40 ?k40 ?a41 ?l41 ?c41 ?k41 ?a42 ?l42 ?c42 ?k42 ?a43 ?l43 ?c43 ?k43 ?a44 ?l44 ?c44 ?k44 ?a45 ?l45 ?c45 ?k45 ?b_REST ?m0 ?b_MOST ?b_HEXAGON ?m1 ?m2 ?m3 ?m4 ?m5 ?m6 ?m7 ?b_NEAR_MOVES ?m8 ?m9 ?m10 ?m11 ?m12 ?m13 ?ga0 ?ga1 ?ga2 ?ga3 ?ysup ?thr ?sgt ?tkt ?htop ?xlx0 ?rvx0 ?cex0 ?fex0 ?iix0 ?tix0 ?kpx0 ?bex0 ?tyx0 ?sax0 ?svx0 ?mcx0 ?ssx0 ?hdx0 ?hgx0 ?hkx0 ?hax0 ?mox0 ?fl_x0 ?cdix0 ?celx0 ?codx0 ?v2x0 ?filx0 ?s_x0_x1 ?d_x0_x1 ?t_x0_x1 ?b_x0_x1 ?s_x0_x2 ?d_x0_x2 ?t_x0_x2 ?b_x0_x2 ?s_x0_x3 ?d_x0_x3 ?t_x0_x3 ?b_x0_x3 ?s_x0_x0 ?d_x0_x0 ?t_x0_x0 ?b_x0_x0 ?y_ValueError ?y_abs ?y_bool ?y_int ?y_isinstance ?y_len ?y_list ?y_max ?y_range ?y_repr ?y_sorted ?y_str ?y_sum ?y_tuple
    (case a0 => k_is)
    (case l0 => k_is)
    (case c0 => k_is)
    (case k0 => k_is)
    (case a1 => k_is)
    (case l1 => k_is)
    (case c1 => k_is)
    (case k1 => k_is)
    (case a2 => k_is)
    (case l2 => k_is)
    (case c2 => k_is)
    (case k2 => k_is)
    (case a3 => k_is)
    (case l3 => k_is)
    (case c3 => k_is)
    (case k3 => k_is)
    (case a4 => k_is)
    (case l4 => k_is)
    (case c4 => k_is)
    (case k4 => k_is)
    (case a5 => k_is)
    (case l5 => k_is)
    (case c5 => k_is)
    (case k5 => k_is)
    (case a6 => k_is)
    (case l6 => k_is)
    (case c6 => k_is)
    (case k6 => k_is)
    (case a7 => k_is)
    (case l7 => k_is)
    (case c7 => k_is)
    (case k7 => k_is)
    (case a8 => k_is)
    (case l8 => k_is)
    (case c8 => k_is)
    (case k8 => k_is)
    (case a9 => k_is)
    (case l9 => k_is)
    (case c9 => k_is)
    (case k9 => k_is)
    (case a10 => k_is)
    (case l10 => k_is)
    (case c10 => k_is)
    (case k10 => k_is)
    (case a11 => k_is)
    (case l11 => k_is)
    (case c11 => k_is)
    (case k11 => k_is)
    (case a12 => k_is)
    (case l12 => k_is)
    (case c12 => k_is)
    (case k12 => k_is)
    (case a13 => k_is)
    (case l13 => k_is)
    (case c13 => k_is)
    (case k13 => k_is)
    (case a14 => k_is)
    (case l14 => k_is)
    (case c14 => k_is)
    (case k14 => k_is)
    (case a15 => k_is)
    (case l15 => k_is)
    (case c15 => k_is)
    (case k15 => k_is)
    (case a16 => k_is)
    (case l16 => k_is)
    (case c16 => k_is)
    (case k16 => k_is)
    (case a17 => k_is)
    (case l17 => k_is)
    (case c17 => k_is)
    (case k17 => k_is)
    (case a18 => k_is)
    (case l18 => k_is)
    (case c18 => k_is)
    (case k18 => k_is)
    (case a19 => k_is)
    (case l19 => k_is)
    (case c19 => k_is)
    (case k19 => k_is)
    (case a20 => k_is)
    (case l20 => k_is)
    (case c20 => k_is)
    (case k20 => k_is)
    (case a21 => k_is)
    (case l21 => k_is)
    (case c21 => k_is)
    (case k21 => k_is)
    (case a22 => k_is)
    (case l22 => k_is)
    (case c22 => k_is)
    (case k22 => k_is)
    (case a23 => k_is)
    (case l23 => k_is)
    (case c23 => k_is)
    (case k23 => k_is)
    (case a24 => k_is)
    (case l24 => k_is)
    (case c24 => k_is)
    (case k24 => k_is)
    (case a25 => k_is)
    (case l25 => k_is)
    (case c25 => k_is)
    (case k25 => k_is)
    (case a26 => k_is)
    (case l26 => k_is)
    (case c26 => k_is)
    (case k26 => k_is)
    (case a27 => k_is)
    (case l27 => k_is)
    (case c27 => k_is)
    (case k27 => k_is)
    (case a28 => k_is)
    (case l28 => k_is)
    (case c28 => k_is)
    (case k28 => k_is)
    (case a29 => k_is)
    (case l29 => k_is)
    (case c29 => k_is)
    (case k29 => k_is)
    (case a30 => k_is)
    (case l30 => k_is)
    (case c30 => k_is)
    (case k30 => k_is)
    (case a31 => k_is)
    (case l31 => k_is)
    (case c31 => k_is)
    (case k31 => k_is)
    (case a32 => k_is)
    (case l32 => k_is)
    (case c32 => k_is)
    (case k32 => k_is)
    (case a33 => k_is)
    (case l33 => k_is)
    (case c33 => k_is)
    (case k33 => k_is)
    (case a34 => k_is)
    (case l34 => k_is)
    (case c34 => k_is)
    (case k34 => k_is)
    (case a35 => k_is)
    (case l35 => k_is)
    (case c35 => k_is)
    (case k35 => k_is)
    (case a36 => k_is)
    (case l36 => k_is)
    (case c36 => k_is)
    (case k36 => k_is)
    (case a37 => k_is)
    (case l37 => k_is)
    (case c37 => k_is)
    (case k37 => k_is)
    (case a38 => k_is)
    (case l38 => k_is)
    (case c38 => k_is)
    (case k38 => k_is)
    (case a39 => k_is)
    (case l39 => k_is)
    (case c39 => k_is)
    (case k39 => k_is)
    (case a40 => k_is)
    (case l40 => k_is)
    (case c40 => k_is)
    (case k40 => k_is)
    (case a41 => k_is)
    (case l41 => k_is)
    (case c41 => k_is)
    (case k41 => k_is)
    (case a42 => k_is)
    (case l42 => k_is)
    (case c42 => k_is)
    (case k42 => k_is)
    (case a43 => k_is)
    (case l43 => k_is)
    (case c43 => k_is)
    (case k43 => k_is)
    (case a44 => k_is)
    (case l44 => k_is)
    (case c44 => k_is)
    (case k44 => k_is)
    (case a45 => k_is)
    (case l45 => k_is)
    (case c45 => k_is)
    (case k45 => k_is)
    (case b_REST => k_is)
    (case m0 => k_is)
    (case b_MOST => k_is)
    (case b_HEXAGON => k_is)
    (case m1 => k_is)
    (case m2 => k_is)
    (case m3 => k_is)
    (case m4 => k_is)
    (case m5 => k_is)
    (case m6 => k_is)
    (case m7 => k_is)
    (case b_NEAR_MOVES => k_is)
    (case m8 => k_is)
    (case m9 => k_is)
    (case m10 => k_is)
    (case m11 => k_is)
    (case m12 => k_is)
    (case m13 => k_is)
    (case ga0 => k_is)
    (case ga1 => k_is)
    (case ga2 => k_is)
    (case ga3 => k_is)
    (case ysup => k_is)
    (case thr => k_is)
    (case sgt => k_is)
    (case tkt => k_is)
    (case xlx0 => k_is)
    (case cex0 => k_is)
    (case fex0 => k_is)
    (case iix0 => k_is)
    (case tix0 => k_is)
    (case kpx0 => k_is)
    (case bex0 => k_is)
    (case tyx0 => k_is)
    (case sax0 => k_is)
    (case svx0 => k_is)
    (case mcx0 => k_is)
    (case ssx0 => k_is)
    (case hdx0 => k_is)
    (case hgx0 => k_is)
    (case hkx0 => k_is)
    (case hax0 => k_is)
    (case mox0 => k_is)
    (case fl_x0 => k_is)
    (case cdix0 => k_is)
    (case celx0 => k_is)
    (case codx0 => k_is)
    (case s_x0_x1 => k_is)
    (case d_x0_x1 => k_is)
    (case t_x0_x1 => k_is)
    (case b_x0_x1 => k_is)
    (case s_x0_x2 => k_is)
    (case d_x0_x2 => k_is)
    (case t_x0_x2 => k_is)
    (case b_x0_x2 => k_is)
    (case s_x0_x3 => k_is)
    (case d_x0_x3 => k_is)
    (case t_x0_x3 => k_is)
    (case b_x0_x3 => k_is)
    (case s_x0_x0 => k_is)
    (case d_x0_x0 => k_is)
    (case t_x0_x0 => k_is)
    (case b_x0_x0 => k_is)
    (case y_ValueError => k_is)
    (case y_abs => k_is)
    (case y_bool => k_is)
    (case y_int => k_is)
    (case y_isinstance => k_is)
    (case y_len => k_is)
    (case y_list => k_is)
    (case y_max => k_is)
    (case y_range => k_is)
    (case y_repr => k_is)
    (case y_sorted => k_is)
    (case y_str => k_is)
    (case y_sum => k_is)
    (case y_tuple => k_is)
    (case htop => first | rfl | decide +kernel)
    (case rvx0 => first | rfl | decide +kernel)
    (case v2x0 => first | rfl | decide +kernel)
    (case filx0 => first | rfl | decide +kernel)
