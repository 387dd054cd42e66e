import PyProof.Rows.All
import Wide.All
import OpenK.AllK
import Wide.FinOn
import PyProof.EqAt
import PyProof.EqKinds
import PyProof.TupleCall
import KE.KExcSuper
import HandS.Base
import HandS.Call
import HandS.List
import HandS.Ends
import HandS.Exc
import HandS.ExcInit
import HandS.Words
import KE.KStateDown
import Lean
import HandS.More
import HandS.WordsExc
import HandS.ExcField
import HandS.Defaults
import HandS.Head0
import HandS.Head1
import HandS.Head2
import HandS.HeadEnd
import HandS.HeadHook1
import HandS.HeadHook2
import HandS.HeadHook3
import KE.GoesSet
import HandS.ForMost
import HandS.ExcOwn
import HandS.TryMany
import HandS.IsInst
import HandS.TupAny
import HandS.Conv
import HandS.CallLocal
import HandS.Wide
import HandS.RaiseMore
import HandS.SetFor
import HandS.Zip
import HandS.Replace
import HandS.ReplaceList
import HandS.ReplaceLit
import KE.GoesEnum
import HandS.WordsDict
import HandS.ReplaceDef
import HandS.SetBool
import HandS.SetKeys
import HandS.Keys
import PySem.Challenge.RW_latekinds_k75_whole_desk
set_option Elab.async false
set_option linter.all false
set_option maxRecDepth 100000
set_option maxHeartbeats 4000000
namespace PySem
namespace LkX
open PySem.W PySem.Calls PyProof.Rows PySem.HandSPX
/-- what the written part says of an own error at C whose __init__ (at fI) says super().__init__ -/
structure ExT (K : Frag) (file : Str) (C fI : Addr) (q : Str) (params : Arguments) (body : List Stmt) (scope : Scope) : Prop where
  cls : ∃ nm q N bs bm sn sub ab col dd k0 k1 k2 k3 k5, K.lookup C = some (excClassObj nm q C N bs bm true sn sub ab col dd k0 k1 k2 k3 k5 "ValueError.__new__") ∧ refsVE bm = true ∧ alongIn K "__init__" bm = some (some (.builtin "ValueError.__init__"))
  sa : findIn K (.ref C) "__setattr__" = some (some (.builtin "object.__setattr__"))
  exC : subIn K (.ref C) (.type "BaseException") = some true
  tyC : typeIn K (.ref C) = some (.type "type")
  kC : keepIn K (.ref C) = true
  iC : findIn K (.ref C) "__init__" = some (some (.ref fI))
  tI : typeIn K (.ref fI) = some (.type "function")
  subVE : subIn K (.ref C) (.type "ValueError") = some true
  subC : mroIn K C (.ref C) = some true
  op : nsIn K cStatics "thirdparty.any" = some none
  fn : ∃ (oc : Value) (od : Option Addr) (kV doc pm : Value) (an : Option Addr) (ct : Value) (osl : Array (Option Value)) (cc cda : Addr) (ccl cl : Value) (cdd cld : Option Addr) (ccs csl : Array (Option Value)) (vs : Array Value) (tf : Tok),
    K.lookup fI = some ⟨oc, od, .func (ksFn "__init__" q params body scope .none kV doc pm an (.ref cda) ct cc), osl⟩ ∧ codeIn K (.ref cda) q = true ∧ K.lookup cc = some ⟨cl, cld, .cell (some (.ref C)), csl⟩ ∧
    K.lookup cda = some ⟨ccl, cdd, .fields vs, ccs⟩ ∧ vs[2]? = some (.str file tf)
theorem drop_own (C : Addr) (l : List Value) : ((Value.ref C :: l).dropWhile (· != .ref C)).drop 1 = l := by
  simp [List.dropWhile_cons]
theorem lk_one (v : Value) : [v].length ≤ sizeLine := by
  rw [sizeLine_eq]
  exact (by decide : 1 ≤ 16777216)
def sup (p1 p2 p3 p4 p5 p6 : Pos) (m : Str) : Stmt := .Expr (.Call (.Attribute (.Call (.Name "super" p1) [] [] p2) "__init__" p3) [.Constant (.str m) 0 p4] [] p5) p6
section
variable {prog : Program} {w : World} {A : Around} {E : Value → Shared → Prop} {R : Result → Shared → Prop} {s : Shared} {K : Frag} {mg mb : Str → Option Value} {C fI : Addr} {file q : Str} {params : Arguments} {body : List Stmt} {scope : Scope}
/-- what stands of the module's names at the call -/
structure Gs (prog : Program) (h : Heap) (mg mb : Str → Option Value) (file : Str) : Prop where
  g : h.Ns mainGlobals mg
  m : mg "super" = none
  b : h.Ns builtinsNs mb
  v : mb "super" = some (.type "super")
  f : ((prog.main.file : Str) == file) = true
  t : (prog.main.scope.names.lookup ("super" : Str)).isSome = false
theorem Gs.keeps {h h' : Heap} (G : Gs prog h mg mb file) (k : ∀ b o, h.get? b = some o → h'.get? b = some o) : Gs prog h' mg mb file := ⟨G.g.keeps k, G.m, G.b.keeps k, G.v, G.f, G.t⟩
/-- the bound __init__, called -/
theorem call_bound (T : ExT K file C fI q params body scope) {u x t0 : Addr} {rest : List Value} {Q : Value → Shared → Prop} (X : K.In s.heap) (hx : s.heap.get? x = some (excO C t0)) (hu : s.heap.get? u = some (kxs_mw "ValueError.__init__" x)) (hz : rest.length ≤ sizeLine)
    (hq : ∀ h' t1, (∀ b o, b ≠ x → s.heap.get? b = some o → h'.get? b = some o) → h'.get? x = some (excO C t1) → Q .none { s with heap := h' }) :
    wpAny (model prog w) A (call (.ref u) rest) Q E s := by
  obtain ⟨nm, qq, N, bs, bm, sn, sub, ab, col, dd, k0, k1, k2, k3, k5, hC, hbm, _⟩ := T.cls
  obtain ⟨hh, g, d, tk, os⟩ := s
  refine wpAny_call (codeAny_of_tree ?_)
  show wpAny _ A.in1 (callAny (.ref u) ⟨rest, []⟩) _ _ _
  simp only [callAny]
  refine wpAny_bind (wpAny_load hu ?_)
  simp only [kxs_mw, show (Value.type "method-wrapper" == Value.type "method" || Value.type "method-wrapper" == Value.type "builtin_function_or_method" || Value.type "method-wrapper" == Value.type "method-wrapper") = true by decide, if_true]
  refine KFB.if_so (by decide) ?_
  refine wpAny_bind (check_bound_init F.excBase_ValueError.toExcCallFacts (X _ _ hC) hx rfl ?_)
  refine wpAny_bind (wpAny_pure (wpAny_pure ?_))
  refine ⟨plainId_quiet F.excBase_ValueError.init.plain _, codeAny_builtin F.excBase_ValueError.initEntry ?_⟩
  exact exc_init_tree (cls := .ref C) (t0 := t0) (dv := none) (c2 := .none) (c3 := .none) (b4 := .bool false) hx hz fun h' k e _ => hq h' _ k e
/-- super().__init__(m) within __init__ -/
theorem run_sup (T : ExT K file C fI q params body scope) {x t0 L : Addr} {m : Str → Option Value} {kV doc pm ct : Value} {an : Option Addr} {cc cda : Addr} {oc : Value} {od : Option Addr} {osl : Array (Option Value)} {ccl cl : Value} {cdd cld : Option Addr} {ccs csl : Array (Option Value)} {vs : Array Value} {tf : Tok}
    (lk : K.lookup fI = some ⟨oc, od, .func (ksFn "__init__" q params body scope .none kV doc pm an (.ref cda) ct cc), osl⟩) (hcell : K.lookup cc = some ⟨cl, cld, .cell (some (.ref C)), csl⟩)
    (hcode : K.lookup cda = some ⟨ccl, cdd, .fields vs, ccs⟩) (hvs : vs[2]? = some (.str file tf)) {p1 p2 p3 p4 p5 p6 : Pos} {msg : Str} {rest : List Stmt}
    {ar : Arg} (hp : (params.posonlyargs ++ params.args).head? = some ar) (hks : scope.names.lookup ("super" : Str) = some .globalImplicit) (hkc : scope.names.lookup ("__class__" : Str) = some .free) (hka : scope.names.lookup ar.arg = some .local) (hk : scope.kind = .function)
    {Q : Flow → Shared → Prop} (X : K.In s.heap) (G : Gs prog s.heap mg mb file) (hn : s.heap.Ns L m) (hv : m ar.arg = some (.ref x)) (hx : s.heap.get? x = some (excO C t0)) (hxL : x ≠ L)
    (hi : interactive (ksEnv q scope L fI (.ref cda) cc) = false) {pl : Sem Bool}
    (ht : eval (.Call (.Attribute (.Call (.Name "super" p1) [] [] p2) "__init__" p3) [.Constant (.str msg) 0 p4] [] p5) (ksEnv q scope L fI (.ref cda) cc) = (do
      let ov ← attributeBase (.Call (.Name "super" p1) [] [] p2) "__init__" (ksEnv q scope L fI (.ref cda) cc) (eval (.Call (.Name "super" p1) [] [] p2) (ksEnv q scope L fI (.ref cda) cc))
      standAt p3.atName
      let (f, first) ← holding [ov] (getMethod ov "__init__" pl)
      callWith p5 f first (backTo p5 (starEach [.Constant (.str msg) 0 p4] (ksEnv q scope L fI (.ref cda) cc))) []))
    (hq : ∀ h' tk t1, h'.Ns L m → (∀ b o, b ≠ x → s.heap.get? b = some o → h'.get? b = some o) → h'.get? x = some (excO C t1) → wpAt (model prog w) A (.func body (ksEnv q scope L fI (.ref cda) cc)) (execs rest (ksEnv q scope L fI (.ref cda) cc)) Q E { s with heap := h', toks := tk }) :
    wpAt (model prog w) A (.func body (ksEnv q scope L fI (.ref cda) cc)) (execs (sup p1 p2 p3 p4 p5 p6 msg :: rest) (ksEnv q scope L fI (.ref cda) cc)) Q E s := by
  obtain ⟨nm, qq, N, bs, bm, sn, sub, ab, col, dd, k0, k1, k2, k3, k5, hC, hbm, hal⟩ := T.cls
  have hcl : clsIn K C = some { name := nm, bases := bs, mro := .ref C :: bm, ns := N, qualname := qq, hasDict := true, slotNames := sn, subclasses := sub, abstract := ab, collection := col, hasDel := false } := by unfold clsIn; rw [hC] <;> rfl
  refine ks_wpAt_execs_cons (ks_wpAt_Expr_any (ks_wpAt_MethodCall (pl := pl) ?_ ht) hi ?_)
  · obtain ⟨hh, g, d, tk, os⟩ := s
    refine ks_wpAt_super_base (env := ksEnv q scope L fI (.ref cda) cc) hks hkc rfl rfl (X _ _ lk) rfl hp rfl (X _ _ hcode) rfl hvs G.f G.t ?_
    refine ks_loadName_global hk hks (loadGlobal_builtin (env := ksEnv q scope L fI (.ref cda) cc) G.g G.m G.b G.v ⟨rfl, ?_⟩)
    refine wpAny_loadName_free hk hkc rfl ⟨_, X _ _ hcell, rfl⟩ ?_
    refine wpAny_loadName_local hk hka hn hv ?_
    refine ks_wpAny_isType_cls (X _ _ hC) rfl ⟨rfl, ?_⟩
    have I : InstAt hh x (excO C t0) C none := ⟨hx, rfl, rfl, trivial⟩
    refine ks_wpAny_call_super (X _ _ hC) rfl hx rfl (fun c e => by cases e) (looks_mroIn X T.subC) (fun h1 e1 k1 => ?_)
    have X1 : K.In h1 := X.keeps k1
    have hx1 := k1 _ _ hx
    have I1 : InstAt h1 x (excO C t0) C none := ⟨hx1, rfl, rfl, trivial⟩
    have hsz : ∀ b o, hh.get? b = some o → b ≠ hh.objs.size := fun b o e => Nat.ne_of_lt (Heap.lt_size e)
    refine kxs_getMethod kxs_ValueError e1 (looks_opaque X1 T.op) (l₀ := .ref C :: bm) (fun A Q E s k z => wpAny_bind ((looks_clsIn X1 hcl) A _ E s k (wpAny_pure z))) (drop_own C bm) X1 hal (I1.type.andThen (looks_subIn X1 T.subVE)) (ks_ne X1 I1 hcl) rfl ?_
    have hu : (h1.push (kxs_mw "ValueError.__init__" x)).get? h1.objs.size = some (kxs_mw "ValueError.__init__" x) := Heap.get?_push_at rfl rfl
    have k2 : ∀ b o, h1.get? b = some o → (h1.push (kxs_mw "ValueError.__init__" x)).get? b = some o := fun b o e => Heap.get?_push_of_some _ e
    refine kxs_callWith (x := x) (i := "ValueError.__init__") rfl (evalArgs_plain (Calls.spliced_cons (Calls.Constant_str (k := 0) (pos := p4) (Calls.spliced_nil ⟨hu, ?_⟩))))
    refine call_bound T (X1.keeps k2) (k2 _ _ hx1) hu (lk_one _) (fun h3 t3 k3 e3 => ?_)
    have k4 : ∀ b o, b ≠ x → hh.get? b = some o → h3.get? b = some o := fun b o hb e => k3 b o hb (k2 _ _ (k1 _ _ e))
    refine hq h3 _ t3 (hn.at fun o e => k4 L o (Ne.symm hxL) e) k4 e3
  · rfl
/-! ### the two forms of __init__ -/
def aS (p1 : Pos) : Arguments := { posonlyargs := [], args := [{ arg := "self", annotation := none, pos := p1 }], vararg := none, kwonlyargs := [], kw_defaults := [], kwarg := none, defaults := [] }
def aSN (p1 p2 : Pos) : Arguments := { posonlyargs := [], args := [{ arg := "self", annotation := none, pos := p1 }, { arg := "name", annotation := none, pos := p2 }], vararg := none, kwonlyargs := [], kw_defaults := [], kwarg := none, defaults := [] }
def sS : Scope := { kind := .function, names := [(PySem.Str.ofString "self", .local), (PySem.Str.ofString "__class__", .free), (PySem.Str.ofString "super", .globalImplicit)], isGenerator := false, isCoroutine := false, more := [] }
def sSN : Scope := { kind := .function, names := [(PySem.Str.ofString "self", .local), (PySem.Str.ofString "name", .local), (PySem.Str.ofString "__class__", .free), (PySem.Str.ofString "super", .globalImplicit)], isGenerator := false, isCoroutine := false, more := [] }
def asg (p1 p2 p3 p4 : Pos) : Stmt := .Assign [.Attribute (.Name "self" p1) "name" p2] (.Name "name" p3) p4
/-- positions on one line -/
def line1 (p3 p5 : Pos) : Prop := (p3.endLine == p5.line) = true
theorem ht_of {env : Env} {p1 p2 p3 p4 p5 : Pos} {msg : Str} (h : line1 p3 p5) : eval (.Call (.Attribute (.Call (.Name "super" p1) [] [] p2) "__init__" p3) [.Constant (.str msg) 0 p4] [] p5) env = (do
      let ov ← attributeBase (.Call (.Name "super" p1) [] [] p2) "__init__" env (eval (.Call (.Name "super" p1) [] [] p2) env)
      standAt p3.atName
      let (f, first) ← holding [ov] (getMethod ov "__init__" (do return (← importBound (.Call (.Name "super" p1) [] [] p2) env).getD true))
      callWith p5 f first (backTo p5 (starEach [.Constant (.str msg) 0 p4] env)) []) := by
  show (do
    let ov ← attributeBase (.Call (.Name "super" p1) [] [] p2) "__init__" env (eval (.Call (.Name "super" p1) [] [] p2) env)
    standAt p3.atName
    methodCall (.Call (.Name "super" p1) [] [] p2) "__init__" p3 p5 env ov 1 (backTo p5 (starEach [.Constant (.str msg) 0 p4] env)) []) = _
  unfold methodCall methodCallPos
  rw [if_pos (show (_ || (p3.endLine == p5.line)) = true by rw [h, Bool.or_true])]
  simp only [pure_bind]
  rfl
theorem init0 {p0 p1 p2 p3 p4 p5 p6 : Pos} {msg : Str} (T : ExT K file C fI q (aS p0) [sup p1 p2 p3 p4 p5 p6 msg] sS) (hl : line1 p3 p5) {x t0 : Addr} (X : K.In s.heap) (hlim : s.heap.NoLimit) (G : Gs prog s.heap mg mb file) (hx : s.heap.get? x = some (excO C t0)) (hroom : A.depth < recursionLimit)
    (hq : ∀ h' tk t1, (∀ b o, b ≠ x → s.heap.get? b = some o → h'.get? b = some o) → h'.get? x = some (excO C t1) → R (.ok (.ret .none)) { s with heap := h', toks := tk }) :
    codeAny (model prog w) A (.call (.ref fI) ⟨[.ref x], []⟩) R s := by
  obtain ⟨oc, od, kV, doc, pm, an, ct, osl, cc, cda, ccl, cl, cdd, cld, ccs, csl, vs, tf, lk, hcd, hcell, hcode, hvs⟩ := T.fn
  refine ks_codeAny_call_defAt (fd := ksFn "__init__" q (aS p0) [sup p1 p2 p3 p4 p5 p6 msg] sS .none kV doc pm an (.ref cda) ct cc) (body := [sup p1 p2 p3 p4 p5 p6 msg]) (binds := [("self", .ref x)]) hroom (X _ _ lk) rfl hlim (codeRec_of X hcd) rfl (BindsTo.of_eq rfl) (show ∀ y ∈ sS.names, y.2 ≠ .cell by decide) (fun y hy => by obtain rfl := List.mem_singleton.mp hy; rfl) (fun h₁ hns k => ?_)
  have hxL : x ≠ s.heap.objs.size := Nat.ne_of_lt (Heap.lt_size hx)
  refine run_sup T lk hcell hcode hvs (ar := { arg := "self", annotation := none, pos := p0 }) rfl rfl rfl rfl rfl (X.keeps k) (G.keeps k) hns rfl (k _ _ hx) hxL rfl (ht_of hl) (fun h' tk t1 hn' k' hx' => ?_)
  exact wpAt_of_wpAny (wpAny_execs_nil (hq h' tk t1 (fun b o hb e => k' b o hb (k b o e)) hx'))
theorem init1 {p0 p01 p1 p2 p3 p4 p5 p6 q1 q2 q3 q4 : Pos} {msg : Str} {v : Value} (T : ExT K file C fI q (aSN p0 p01) [sup p1 p2 p3 p4 p5 p6 msg, asg q1 q2 q3 q4] sSN) (hno : findIn K (.ref C) "name" = some none) (hl : line1 p3 p5) {x t0 : Addr} (X : K.In s.heap) (hnx : K.lookup x = none) (hlim : s.heap.NoLimit) (G : Gs prog s.heap mg mb file) (hx : s.heap.get? x = some (excO C t0)) (hroom : A.depth < recursionLimit)
    (hq : ∀ h' tk t1 dx, (∀ b o, b ≠ x → s.heap.get? b = some o → h'.get? b = some o) → h'.get? x = some { cls := .ref C, dict := some dx, data := .fields #[.ref t1, .none, .none, .none, .bool false, .none] } → s.heap.objs.size ≤ dx → dx ≠ x → h'.Ns1 dx (fun y => if y = "name" then some v else none) →
      R (.ok (.ret .none)) { s with heap := h', toks := tk }) :
    codeAny (model prog w) A (.call (.ref fI) ⟨[.ref x, v], []⟩) R s := by
  obtain ⟨oc, od, kV, doc, pm, an, ct, osl, cc, cda, ccl, cl, cdd, cld, ccs, csl, vs, tf, lk, hcd, hcell, hcode, hvs⟩ := T.fn
  obtain ⟨nm, qq, N, bs, bm, sn, sub, ab, col, dd, k0, k1, k2, k3, k5, hC, hbm, hal⟩ := T.cls
  have hcl : clsIn K C = some { name := nm, bases := bs, mro := .ref C :: bm, ns := N, qualname := qq, hasDict := true, slotNames := sn, subclasses := sub, abstract := ab, collection := col, hasDel := false } := by unfold clsIn; rw [hC] <;> rfl
  refine ks_codeAny_call_defAt (fd := ksFn "__init__" q (aSN p0 p01) [sup p1 p2 p3 p4 p5 p6 msg, asg q1 q2 q3 q4] sSN .none kV doc pm an (.ref cda) ct cc) (body := [sup p1 p2 p3 p4 p5 p6 msg, asg q1 q2 q3 q4]) (binds := [("self", .ref x), ("name", v)]) hroom (X _ _ lk) rfl hlim (codeRec_of X hcd) rfl (BindsTo.of_eq rfl) (show ∀ y ∈ sSN.names, y.2 ≠ .cell by decide) (fun y hy => by rcases List.mem_cons.mp hy with rfl | hy; exact rfl; obtain rfl := List.mem_singleton.mp hy; rfl) (fun h₁ hns k => ?_)
  have hxL : x ≠ s.heap.objs.size := Nat.ne_of_lt (Heap.lt_size hx)
  refine run_sup T lk hcell hcode hvs (ar := { arg := "self", annotation := none, pos := p0 }) rfl rfl rfl rfl rfl (X.keeps k) (G.keeps k) hns rfl (k _ _ hx) hxL rfl (ht_of hl) (fun h' tk t1 hn' k' hx' => ?_)
  have X' : K.In h' := fun a o e => k' a o (fun z => by rw [z, hnx] at e; cases e) (k a o (X a o e))
  refine wpAt_of_wpAny (wpAny_execs_cons (plainObj_wpAny_Assign_Attribute ?_ rfl))
  refine wpAny_Name (wpAny_loadName_local (v := v) rfl rfl hn' rfl ?_) rfl
  refine wpAny_Name (wpAny_loadName_local (v := .ref x) rfl rfl hn' rfl ?_) rfl
  refine set_plain X' (ox := excO C t1) (od := none) ⟨hx', rfl, rfl, trivial⟩ T.sa ?_
  refine exc_osa X' hx' hcl (show refsVE (.ref C :: bm) = true from hbm) rfl hno (fun h₃ tk₃ dx k₃ dn dne hx₃ hn₃ => ?_)
  refine wpAny_execs_nil (hq h₃ tk₃ t1 dx (fun b o hb e => k₃ b o hb (k' b o hb (k b o e))) hx₃ ?_ dne hn₃)
  have z : s.heap.objs.size < h'.objs.size := hn'.lt
  exact Nat.le_trans (Nat.le_of_lt z) dn
end
end LkX
end PySem
namespace L2
open PySem PySem.Spec PyProof.Rows PySem.LkX PySem.HandSPX
/-- what the program's own frame must be for super() -/
structure SupOk (X : Cx) (file : Str) : Prop where
  m : X.mg "super" = none
  f : ((X.prog.main.file : Str) == file) = true
  t : (X.prog.main.scope.names.lookup ("super" : Str)).isSome = false
theorem SupOk.gs {X : Cx} {file : Str} (S : SupOk X file) {pins : List (Addr × Obj)} {σ : St} {H : Hp} {s : Shared} (I : Inv X pins σ H s) : ∃ mb, Gs X.prog s.heap X.mg mb file := by
  obtain ⟨mb, hb, hv⟩ := I.ok.mod.blt
  exact ⟨mb, I.ok.mod.glob.keeps I.bk, S.m, hb.keeps I.bk, (hv _ (by decide)).trans (by decide +kernel), S.f, S.t⟩
section
variable {X : Cx} {file : Str} {C fI : Addr} {x q : Str} {p pos : Pos} {p0 p01 p1 p2 p3 p4 p5 p6 q1 q2 q3 q4 : Pos} {msg : Str}
theorem exc_new (hp : Heap) (us : List Value) (C : Addr) : ((hp.push (PySem.W.kdv_tup us)).push (excO C hp.objs.size)).get? (hp.objs.size + 1) = some (excO C hp.objs.size) := by heap_get
/-- C(), C an own error whose __init__(self) says super().__init__(msg) -/
theorem pmk_sup0 {k : Nat} (T : ExT X.K file C fI q (aS p0) [sup p1 p2 p3 p4 p5 p6 msg] sS) (hl : line1 p3 p5) (S : SupOk X file) (hr : Room k X.A) (hg : Gl X x) (hm : X.mg x = some (.ref C)) (hdb : (x == ("__debug__" : Str)) = false := by decide) :
    PMk X (.Call (.Name x p) [] [] pos) (fun _ H Q => Q (.ref C) none H) := by
  intro pins s σ H Q I h
  obtain ⟨nm, qq, N, bs, bm, sn, sub, ab, col, dd, k0, k1, k2, k3, k5, hC, hbm, hal⟩ := T.cls
  refine wpAny_Call_Name_kw (ld_glob I hg hm ?_ hdb)
  refine PySem.W.callWith_K0 I.kIn T.kC ?_
  obtain ⟨mb, G⟩ := S.gs I
  have hlim := I.nolimit
  obtain ⟨hp, g, dr, tk, os⟩ := s
  have kk : ∀ b o, hp.get? b = some o → ((hp.push (PySem.W.kdv_tup [])).push (excO C hp.objs.size)).get? b = some o := fun b o e => Heap.get?_push_of_some _ (Heap.get?_push_of_some _ e)
  refine wpAny_call (call_own F.excBase_ValueError (fun Y => refsVE_contains Y bm hbm) (I.kIn _ _ hC) (PySem.W.looks_findIn I.kIn T.iC) (fun self => PySem.W.bind_fn I.kIn self T.tI) (Nat.zero_le _) ?_)
  refine init0 (s := ⟨(hp.push (PySem.W.kdv_tup [])).push (excO C hp.objs.size), g, dr, tk, os⟩) T hl (I.kIn.keeps kk) (hlim.keeps kk) (G.keeps kk) (exc_new hp [] C) (by have := hr.dp; show X.A.depth + 1 < _; omega) fun h' tk' t1 k' hx' => ⟨rfl, ?_⟩
  obtain ⟨G', g1, g2⟩ := restrict h' fun b => decide (b ≠ hp.objs.size + 1)
  have gk : ∀ b, b ≠ hp.objs.size + 1 → G'.get? b = h'.get? b := fun b hb => g1 b (decide_eq_true hb)
  have ge : G'.get? (hp.objs.size + 1) = none := g2 _ (by simp)
  have ne : ∀ {b : Addr} {o : Obj}, hp.get? b = some o → b ≠ hp.objs.size + 1 := fun {b o} e => Nat.ne_of_lt (Nat.lt_succ_of_lt (Heap.lt_size e))
  have old : ∀ b o, hp.get? b = some o → G'.get? b = some o := fun b o e => (gk b (ne e)).trans (k' b o (ne e) (kk b o e))
  have J : Inv X pins σ H ⟨G', g, dr, tk', os⟩ := I.kept (t' := tk') old
  refine ⟨hp.objs.size + 1, _, _, ⟨G', g, dr, tk', os⟩, H, .ref C, none, rfl, J, fun b o e => ?_, ge, hx', ⟨rfl, rfl⟩, rfl, rfl, I.hok.fresh (Nat.le_succ _), rfl, I.bare, raises_own T.exC T.tyC, h⟩
  by_cases hb : b = hp.objs.size + 1
  · have e' : G'.get? b = some o := e
    rw [hb, ge] at e'
    cases e'
  · exact (gk b hb).symm.trans e
/-- C(e), C an own error whose __init__(self, name) says super().__init__(msg); self.name = name -/
theorem pmk_sup1 {k : Nat} {a : Expr} {ta : TA} (T : ExT X.K file C fI q (aSN p0 p01) [sup p1 p2 p3 p4 p5 p6 msg, asg q1 q2 q3 q4] sSN) (hno : PySem.W.findIn X.K (.ref C) "name" = some none) (hl : line1 p3 p5) (S : SupOk X file) (hr : Room k X.A) (hg : Gl X x) (hm : X.mg x = some (.ref C)) (ha : PA X [a] ta) (hdb : (x == ("__debug__" : Str)) = false := by decide)
    (he : starEach (a :: []) X.env = (false, eval a X.env) :: starEach [] X.env := by rfl) (hpl : (backTo pos (starEach [] X.env)).any (·.1) = false := by rfl) :
    PMk X (.Call (.Name x p) [a] [] pos) (fun σ H Q => ta σ H fun vs H1 => ∃ v, vs = [v] ∧ ∀ d, H1 d = none → Q (.ref C) (some d) (upd H1 d (.xd [(("name" : Str), v)]))) := by
  intro pins s σ H Q I h
  obtain ⟨nm, qq, N, bs, bm, sn, sub, ab, col, dd, k0, k1, k2, k3, k5, hC, hbm, hal⟩ := T.cls
  refine wpAny_Call_Name_kw (ld_glob I hg hm ?_ hdb)
  refine PySem.W.callWith_K (h₀ := X.base) I.ok.mod.kin T.kC (thn (ha.run pos pins s σ H _ I h) fun us s1 hh => ?_) he hpl
  obtain ⟨vs, H1, I1, r1, v, ev, q1⟩ := hh
  subst ev
  refine ⟨I1.kIn, ?_⟩
  obtain ⟨u, rfl, rv⟩ := vals1 r1
  show wpAny _ _ (call (.ref C) [u]) _ _ _
  obtain ⟨mb, G⟩ := S.gs I1
  have hlim := I1.nolimit
  obtain ⟨hp, g, dr, tk, os⟩ := s1
  have kk : ∀ b o, hp.get? b = some o → ((hp.push (PySem.W.kdv_tup [u])).push (excO C hp.objs.size)).get? b = some o := fun b o e => Heap.get?_push_of_some _ (Heap.get?_push_of_some _ e)
  have hnx : X.K.lookup (hp.objs.size + 1) = none := by
    cases e : X.K.lookup (hp.objs.size + 1) with
    | none => rfl
    | some o =>
      have z : hp.get? (hp.objs.size + 1) = some o := I1.kIn _ _ e
      exact absurd (Nat.lt_of_succ_lt (Heap.lt_size z)) (Nat.lt_irrefl _)
  refine wpAny_call (call_own F.excBase_ValueError (fun Y => refsVE_contains Y bm hbm) (I1.kIn _ _ hC) (PySem.W.looks_findIn I1.kIn T.iC) (fun self => PySem.W.bind_fn I1.kIn self T.tI) (lk_one u) ?_)
  refine init1 (s := ⟨(hp.push (PySem.W.kdv_tup [u])).push (excO C hp.objs.size), g, dr, tk, os⟩) T hno hl (I1.kIn.keeps kk) hnx (hlim.keeps kk) (G.keeps kk) (exc_new hp [u] C) (by have := hr.dp; show X.A.depth + 1 < _; omega) fun h' tk' t1 d k' hx' dn dne hns => ⟨rfl, ?_⟩
  have dn' : hp.objs.size + 1 + 1 ≤ d := by
    have q := dn
    rw [Heap.size_push, Heap.size_push] at q
    exact q
  obtain ⟨G', g1, g2⟩ := restrict h' fun b => decide (b ≠ hp.objs.size + 1)
  have gk : ∀ b, b ≠ hp.objs.size + 1 → G'.get? b = h'.get? b := fun b hb => g1 b (decide_eq_true hb)
  have ge : G'.get? (hp.objs.size + 1) = none := g2 _ (by simp)
  have ne : ∀ {b : Addr} {o : Obj}, hp.get? b = some o → b ≠ hp.objs.size + 1 := fun {b o} e => Nat.ne_of_lt (Nat.lt_succ_of_lt (Heap.lt_size e))
  have old : ∀ b o, hp.get? b = some o → G'.get? b = some o := fun b o e => (gk b (ne e)).trans (k' b o (ne e) (kk b o e))
  have rel : ∀ f, RelO (List.lookup f [(("name" : Str), v)]) (if f = "name" then some u else none) := fun f => by
    rw [lookup_put]
    by_cases hw : f = "name"
    · rw [if_pos hw, if_pos hw]
      exact rv
    · rw [if_neg hw, if_neg hw]
      trivial
  have ob : ObjOk X.prog X.w (upd H1 d (.xd [(("name" : Str), v)])) G' d (.xd [(("name" : Str), v)]) := ⟨_, hns.at (fun o q => (gk d dne).trans q), rel⟩
  have J : Inv X pins σ (upd H1 d (.xd [(("name" : Str), v)])) ⟨G', g, dr, tk', os⟩ := I1.laid (t' := tk') old (by show hp.objs.size ≤ d; omega) ob
  refine ⟨hp.objs.size + 1, _, _, ⟨G', g, dr, tk', os⟩, _, .ref C, some d, rfl, J, fun b o e => ?_, ge, hx', ⟨rfl, rfl⟩, rfl, rfl, ?_, rfl, I1.bare, raises_own T.exC T.tyC, q1 d (I1.hok.fresh (by show hp.objs.size ≤ d; omega))⟩
  · by_cases hb : b = hp.objs.size + 1
    · have e' : G'.get? b = some o := e
      rw [hb, ge] at e'
      cases e'
    · exact (gk b hb).symm.trans e
  · rw [upd_ne (Ne.symm dne)]
    exact I1.hok.fresh (Nat.le_succ _)
end
end L2
set_option Elab.async false
set_option linter.all false
set_option maxRecDepth 100000
set_option maxHeartbeats 4000000
namespace Lk
open PySem PySem.Spec PyProof.Rows L2 PySem.LkX
open He (ga ma)
/-! ### the text by places -/
def top (i : Nat) : Stmt := PySem.Challenge.pw_latekinds_k75_whole_desk.main.body.getD i (.Pass ⟨0, 0, 0, 0⟩)
abbrev s_is_integer : Stmt := (top 11)
abbrev s_is_within : Stmt := (top 12)
abbrev s_is_lot : Stmt := (top 13)
abbrev s_check_kind_of : Stmt := (top 14)
abbrev s_check_most : Stmt := (top 15)
abbrev s_are_parents : Stmt := (top 19)
abbrev s_Book_init : Stmt := (inClass (top 20) 0)
abbrev s_Book_fill : Stmt := (inClass (top 20) 1)
abbrev s_book_of : Stmt := (top 21)
abbrev s_grown : Stmt := (top 22)
abbrev s_many_of : Stmt := (top 23)
abbrev s_is_one : Stmt := (top 24)
abbrev s_Groups_init : Stmt := (inClass (top 26) 0)
abbrev s_Groups_fitting : Stmt := (inClass (top 26) 1)
abbrev s_Groups_taken : Stmt := (inClass (top 26) 2)
abbrev s_Groups_put : Stmt := (inClass (top 26) 3)
abbrev s_Groups_told : Stmt := (inClass (top 26) 4)
abbrev s_entries_of : Stmt := (top 27)
abbrev s_Rows_init : Stmt := (inClass (top 29) 0)
abbrev s_Rows_put : Stmt := (inClass (top 29) 1)
abbrev s_Rows_forebears_here : Stmt := (inClass (top 29) 2)
abbrev s_Rows_join : Stmt := (inClass (top 29) 3)
abbrev s_Rows_many : Stmt := (inClass (top 29) 4)
abbrev s_rows_of : Stmt := (top 30)
abbrev s_all_kinds : Stmt := (top 31)
abbrev s_width : Stmt := (top 32)
abbrev s_told : Stmt := (top 34)
abbrev s_groups_from : Stmt := (top 36)
abbrev s_first_step : Stmt := (top 37)
abbrev s_next_step : Stmt := (top 38)
abbrev s_Runtime_init : Stmt := (inClass (top 39) 0)
abbrev s_Runtime_load : Stmt := (inClass (top 39) 1)
abbrev s_Runtime_ask : Stmt := (inClass (top 39) 2)
abbrev s_Runtime_given : Stmt := (inClass (top 39) 3)
abbrev s_Runtime_book : Stmt := (inClass (top 39) 4)
abbrev s_Runtime_groups : Stmt := (inClass (top 39) 5)
abbrev s_Runtime_many : Stmt := (inClass (top 39) 7)
abbrev s_Runtime_copy : Stmt := (inClass (top 39) 8)
abbrev s_is_number : Stmt := (top 43)
abbrev s_joined : Stmt := (top 44)
abbrev s_book_text : Stmt := (top 45)
abbrev s_given_line : Stmt := (top 46)
abbrev s_is_name : Stmt := (top 51)
abbrev s_are_kinds : Stmt := (top 52)
abbrev s_fits : Stmt := (top 53)
abbrev s_words_of : Stmt := (top 54)
abbrev s_numbers_of : Stmt := (top 55)
abbrev s_told_ask : Stmt := (top 56)
abbrev s_told_given : Stmt := (top 57)
abbrev s_told_show : Stmt := (top 58)
abbrev s_told_width : Stmt := (top 59)
abbrev s_told_slots : Stmt := (top 60)
abbrev s_told_groups : Stmt := (top 61)
abbrev s_Desk_init : Stmt := (inClass (top 63) 0)
abbrev s_Desk_tell : Stmt := (inClass (top 63) 1)
abbrev s_Desk_done : Stmt := (inClass (top 63) 2)
abbrev s_Desk_all_names : Stmt := (inClass (top 63) 3)
abbrev s_Desk_undo : Stmt := (inClass (top 63) 4)
abbrev s_Desk_undoable : Stmt := (inClass (top 63) 5)
abbrev s_law_flow : Stmt := (top 65)
abbrev s_law_draw : Stmt := (top 66)
abbrev s_law_parents : Stmt := (top 67)
abbrev s_law_lot : Stmt := (top 68)
abbrev s_law_name : Stmt := (top 69)
abbrev s_law_joined : Stmt := (top 70)
abbrev s_law_lots : Stmt := (top 71)
abbrev s_law_runtime : Stmt := (top 72)
abbrev s_law_none : Stmt := (top 73)
abbrev s_law_answer : Stmt := (top 74)
abbrev s_law_tell : Stmt := (top 75)
abbrev s_law_asked : Stmt := (top 76)
abbrev s_law_load : Stmt := (top 77)
abbrev s_law_undo : Stmt := (top 78)
abbrev s_law_changed : Stmt := (top 79)
abbrev s_law_stands : Stmt := (top 80)
abbrev s_law : Stmt := (top 81)
abbrev s_NoKind_init : Stmt := (inClass (top 4) 0)
abbrev s_BadKind_init : Stmt := (inClass (top 5) 0)
abbrev s_NothingDone_init : Stmt := (inClass (top 7) 0)
abbrev s_NoBook_init : Stmt := (inClass (top 9) 0)
def d_is_integer : He.DefD := ⟨("is_integer", none), "is_integer", "is_integer", defArgs s_is_integer, defBody s_is_integer, defScope s_is_integer, [], []⟩
def d_is_within : He.DefD := ⟨("is_within", none), "is_within", "is_within", defArgs s_is_within, defBody s_is_within, defScope s_is_within, [], []⟩
def d_is_lot : He.DefD := ⟨("is_lot", none), "is_lot", "is_lot", defArgs s_is_lot, defBody s_is_lot, defScope s_is_lot, [], []⟩
def d_check_kind_of : He.DefD := ⟨("check_kind_of", none), "check_kind_of", "check_kind_of", defArgs s_check_kind_of, defBody s_check_kind_of, defScope s_check_kind_of, [], []⟩
def d_check_most : He.DefD := ⟨("check_most", none), "check_most", "check_most", defArgs s_check_most, defBody s_check_most, defScope s_check_most, [], []⟩
def d_are_parents : He.DefD := ⟨("are_parents", none), "are_parents", "are_parents", defArgs s_are_parents, defBody s_are_parents, defScope s_are_parents, [], []⟩
def d_Book_init : He.DefD := ⟨("Book", some "__init__"), "__init__", "Book.__init__", defArgs s_Book_init, defBody s_Book_init, defScope s_Book_init, [], []⟩
def d_Book_fill : He.DefD := ⟨("Book", some "fill"), "fill", "Book.fill", defArgs s_Book_fill, defBody s_Book_fill, defScope s_Book_fill, [], []⟩
def d_book_of : He.DefD := ⟨("book_of", none), "book_of", "book_of", defArgs s_book_of, defBody s_book_of, defScope s_book_of, [], []⟩
def d_grown : He.DefD := ⟨("grown", none), "grown", "grown", defArgs s_grown, defBody s_grown, defScope s_grown, [], []⟩
def d_many_of : He.DefD := ⟨("many_of", none), "many_of", "many_of", defArgs s_many_of, defBody s_many_of, defScope s_many_of, [], []⟩
def d_is_one : He.DefD := ⟨("is_one", none), "is_one", "is_one", defArgs s_is_one, defBody s_is_one, defScope s_is_one, [], []⟩
def d_Groups_init : He.DefD := ⟨("Groups", some "__init__"), "__init__", "Groups.__init__", defArgs s_Groups_init, defBody s_Groups_init, defScope s_Groups_init, [], []⟩
def d_Groups_fitting : He.DefD := ⟨("Groups", some "fitting"), "fitting", "Groups.fitting", defArgs s_Groups_fitting, defBody s_Groups_fitting, defScope s_Groups_fitting, [], []⟩
def d_Groups_taken : He.DefD := ⟨("Groups", some "taken"), "taken", "Groups.taken", defArgs s_Groups_taken, defBody s_Groups_taken, defScope s_Groups_taken, [], []⟩
def d_Groups_put : He.DefD := ⟨("Groups", some "put"), "put", "Groups.put", defArgs s_Groups_put, defBody s_Groups_put, defScope s_Groups_put, [], []⟩
def d_Groups_told : He.DefD := ⟨("Groups", some "told"), "told", "Groups.told", defArgs s_Groups_told, defBody s_Groups_told, defScope s_Groups_told, [], []⟩
def d_entries_of : He.DefD := ⟨("entries_of", none), "entries_of", "entries_of", defArgs s_entries_of, defBody s_entries_of, defScope s_entries_of, [], []⟩
def d_Rows_init : He.DefD := ⟨("Rows", some "__init__"), "__init__", "Rows.__init__", defArgs s_Rows_init, defBody s_Rows_init, defScope s_Rows_init, [], []⟩
def d_Rows_put : He.DefD := ⟨("Rows", some "put"), "put", "Rows.put", defArgs s_Rows_put, defBody s_Rows_put, defScope s_Rows_put, [], []⟩
def d_Rows_forebears_here : He.DefD := ⟨("Rows", some "forebears_here"), "forebears_here", "Rows.forebears_here", defArgs s_Rows_forebears_here, defBody s_Rows_forebears_here, defScope s_Rows_forebears_here, [], []⟩
def d_Rows_join : He.DefD := ⟨("Rows", some "join"), "join", "Rows.join", defArgs s_Rows_join, defBody s_Rows_join, defScope s_Rows_join, [], []⟩
def d_Rows_many : He.DefD := ⟨("Rows", some "many"), "many", "Rows.many", defArgs s_Rows_many, defBody s_Rows_many, defScope s_Rows_many, [], []⟩
def d_rows_of : He.DefD := ⟨("rows_of", none), "rows_of", "rows_of", defArgs s_rows_of, defBody s_rows_of, defScope s_rows_of, [], []⟩
def d_all_kinds : He.DefD := ⟨("all_kinds", none), "all_kinds", "all_kinds", defArgs s_all_kinds, defBody s_all_kinds, defScope s_all_kinds, [], []⟩
def d_width : He.DefD := ⟨("width", none), "width", "width", defArgs s_width, defBody s_width, defScope s_width, [], []⟩
def d_told : He.DefD := ⟨("told", none), "told", "told", defArgs s_told, defBody s_told, defScope s_told, [], []⟩
def d_groups_from : He.DefD := ⟨("groups_from", none), "groups_from", "groups_from", defArgs s_groups_from, defBody s_groups_from, defScope s_groups_from, [], []⟩
def d_first_step : He.DefD := ⟨("first_step", none), "first_step", "first_step", defArgs s_first_step, defBody s_first_step, defScope s_first_step, [], []⟩
def d_next_step : He.DefD := ⟨("next_step", none), "next_step", "next_step", defArgs s_next_step, defBody s_next_step, defScope s_next_step, [], []⟩
def d_Runtime_init : He.DefD := ⟨("Runtime", some "__init__"), "__init__", "Runtime.__init__", defArgs s_Runtime_init, defBody s_Runtime_init, defScope s_Runtime_init, [], []⟩
def d_Runtime_load : He.DefD := ⟨("Runtime", some "load"), "load", "Runtime.load", defArgs s_Runtime_load, defBody s_Runtime_load, defScope s_Runtime_load, [], []⟩
def d_Runtime_ask : He.DefD := ⟨("Runtime", some "ask"), "ask", "Runtime.ask", defArgs s_Runtime_ask, defBody s_Runtime_ask, defScope s_Runtime_ask, [], []⟩
def d_Runtime_given : He.DefD := ⟨("Runtime", some "given"), "given", "Runtime.given", defArgs s_Runtime_given, defBody s_Runtime_given, defScope s_Runtime_given, [], []⟩
def d_Runtime_book : He.DefD := ⟨("Runtime", some "book"), "book", "Runtime.book", defArgs s_Runtime_book, defBody s_Runtime_book, defScope s_Runtime_book, [], []⟩
def d_Runtime_groups : He.DefD := ⟨("Runtime", some "groups"), "groups", "Runtime.groups", defArgs s_Runtime_groups, defBody s_Runtime_groups, defScope s_Runtime_groups, [], []⟩
def d_Runtime_many : He.DefD := ⟨("Runtime", some "many"), "many", "Runtime.many", defArgs s_Runtime_many, defBody s_Runtime_many, defScope s_Runtime_many, [], []⟩
def d_Runtime_copy : He.DefD := ⟨("Runtime", some "copy"), "copy", "Runtime.copy", defArgs s_Runtime_copy, defBody s_Runtime_copy, defScope s_Runtime_copy, [], []⟩
def d_is_number : He.DefD := ⟨("is_number", none), "is_number", "is_number", defArgs s_is_number, defBody s_is_number, defScope s_is_number, [], []⟩
def d_joined : He.DefD := ⟨("joined", none), "joined", "joined", defArgs s_joined, defBody s_joined, defScope s_joined, [], []⟩
def d_book_text : He.DefD := ⟨("book_text", none), "book_text", "book_text", defArgs s_book_text, defBody s_book_text, defScope s_book_text, [], []⟩
def d_given_line : He.DefD := ⟨("given_line", none), "given_line", "given_line", defArgs s_given_line, defBody s_given_line, defScope s_given_line, [], []⟩
def d_is_name : He.DefD := ⟨("is_name", none), "is_name", "is_name", defArgs s_is_name, defBody s_is_name, defScope s_is_name, [], []⟩
def d_are_kinds : He.DefD := ⟨("are_kinds", none), "are_kinds", "are_kinds", defArgs s_are_kinds, defBody s_are_kinds, defScope s_are_kinds, [], []⟩
def d_fits : He.DefD := ⟨("fits", none), "fits", "fits", defArgs s_fits, defBody s_fits, defScope s_fits, [], []⟩
def d_words_of : He.DefD := ⟨("words_of", none), "words_of", "words_of", defArgs s_words_of, defBody s_words_of, defScope s_words_of, [], []⟩
def d_numbers_of : He.DefD := ⟨("numbers_of", none), "numbers_of", "numbers_of", defArgs s_numbers_of, defBody s_numbers_of, defScope s_numbers_of, [], []⟩
def d_told_ask : He.DefD := ⟨("told_ask", none), "told_ask", "told_ask", defArgs s_told_ask, defBody s_told_ask, defScope s_told_ask, [], []⟩
def d_told_given : He.DefD := ⟨("told_given", none), "told_given", "told_given", defArgs s_told_given, defBody s_told_given, defScope s_told_given, [], []⟩
def d_told_show : He.DefD := ⟨("told_show", none), "told_show", "told_show", defArgs s_told_show, defBody s_told_show, defScope s_told_show, [], []⟩
def d_told_width : He.DefD := ⟨("told_width", none), "told_width", "told_width", defArgs s_told_width, defBody s_told_width, defScope s_told_width, [], []⟩
def d_told_slots : He.DefD := ⟨("told_slots", none), "told_slots", "told_slots", defArgs s_told_slots, defBody s_told_slots, defScope s_told_slots, [], []⟩
def d_told_groups : He.DefD := ⟨("told_groups", none), "told_groups", "told_groups", defArgs s_told_groups, defBody s_told_groups, defScope s_told_groups, [], []⟩
def d_Desk_init : He.DefD := ⟨("Desk", some "__init__"), "__init__", "Desk.__init__", defArgs s_Desk_init, defBody s_Desk_init, defScope s_Desk_init, [], []⟩
def d_Desk_tell : He.DefD := ⟨("Desk", some "tell"), "tell", "Desk.tell", defArgs s_Desk_tell, defBody s_Desk_tell, defScope s_Desk_tell, [], []⟩
def d_Desk_done : He.DefD := ⟨("Desk", some "done"), "done", "Desk.done", defArgs s_Desk_done, defBody s_Desk_done, defScope s_Desk_done, [], []⟩
def d_Desk_all_names : He.DefD := ⟨("Desk", some "all_names"), "all_names", "Desk.all_names", defArgs s_Desk_all_names, defBody s_Desk_all_names, defScope s_Desk_all_names, [], []⟩
def d_Desk_undo : He.DefD := ⟨("Desk", some "undo"), "undo", "Desk.undo", defArgs s_Desk_undo, defBody s_Desk_undo, defScope s_Desk_undo, [], []⟩
def d_Desk_undoable : He.DefD := ⟨("Desk", some "undoable"), "undoable", "Desk.undoable", defArgs s_Desk_undoable, defBody s_Desk_undoable, defScope s_Desk_undoable, [], []⟩
def d_law_flow : He.DefD := ⟨("_law_flow", none), "_law_flow", "_law_flow", defArgs s_law_flow, defBody s_law_flow, defScope s_law_flow, [], []⟩
def d_law_draw : He.DefD := ⟨("_law_draw", none), "_law_draw", "_law_draw", defArgs s_law_draw, defBody s_law_draw, defScope s_law_draw, [], []⟩
def d_law_parents : He.DefD := ⟨("_law_parents", none), "_law_parents", "_law_parents", defArgs s_law_parents, defBody s_law_parents, defScope s_law_parents, [], []⟩
def d_law_lot : He.DefD := ⟨("_law_lot", none), "_law_lot", "_law_lot", defArgs s_law_lot, defBody s_law_lot, defScope s_law_lot, [], []⟩
def d_law_name : He.DefD := ⟨("_law_name", none), "_law_name", "_law_name", defArgs s_law_name, defBody s_law_name, defScope s_law_name, [], []⟩
def d_law_joined : He.DefD := ⟨("_law_joined", none), "_law_joined", "_law_joined", defArgs s_law_joined, defBody s_law_joined, defScope s_law_joined, [], []⟩
def d_law_lots : He.DefD := ⟨("_law_lots", none), "_law_lots", "_law_lots", defArgs s_law_lots, defBody s_law_lots, defScope s_law_lots, [], []⟩
def d_law_runtime : He.DefD := ⟨("_law_runtime", none), "_law_runtime", "_law_runtime", defArgs s_law_runtime, defBody s_law_runtime, defScope s_law_runtime, [], []⟩
def d_law_none : He.DefD := ⟨("_law_none", none), "_law_none", "_law_none", defArgs s_law_none, defBody s_law_none, defScope s_law_none, [], []⟩
def d_law_answer : He.DefD := ⟨("_law_answer", none), "_law_answer", "_law_answer", defArgs s_law_answer, defBody s_law_answer, defScope s_law_answer, [], []⟩
def d_law_tell : He.DefD := ⟨("_law_tell", none), "_law_tell", "_law_tell", defArgs s_law_tell, defBody s_law_tell, defScope s_law_tell, [], []⟩
def d_law_asked : He.DefD := ⟨("_law_asked", none), "_law_asked", "_law_asked", defArgs s_law_asked, defBody s_law_asked, defScope s_law_asked, [], []⟩
def d_law_load : He.DefD := ⟨("_law_load", none), "_law_load", "_law_load", defArgs s_law_load, defBody s_law_load, defScope s_law_load, [], []⟩
def d_law_undo : He.DefD := ⟨("_law_undo", none), "_law_undo", "_law_undo", defArgs s_law_undo, defBody s_law_undo, defScope s_law_undo, [], []⟩
def d_law_changed : He.DefD := ⟨("_law_changed", none), "_law_changed", "_law_changed", defArgs s_law_changed, defBody s_law_changed, defScope s_law_changed, [], []⟩
def d_law_stands : He.DefD := ⟨("_law_stands", none), "_law_stands", "_law_stands", defArgs s_law_stands, defBody s_law_stands, defScope s_law_stands, [], []⟩
def d_law : He.DefD := ⟨("law", none), "law", "law", defArgs s_law, defBody s_law, defScope s_law, [], []⟩
def fn0 : List He.DefD := [d_is_integer, d_is_within, d_is_lot, d_check_kind_of, d_check_most, d_are_parents, d_Book_init, d_Book_fill, d_book_of, d_grown, d_many_of, d_is_one, d_Groups_init, d_Groups_fitting, d_Groups_taken, d_Groups_put, d_Groups_told, d_entries_of, d_Rows_init, d_Rows_put]
def fn1 : List He.DefD := [d_Rows_forebears_here, d_Rows_join, d_Rows_many, d_rows_of, d_all_kinds, d_width, d_told, d_groups_from, d_first_step, d_next_step, d_Runtime_init, d_Runtime_load, d_Runtime_ask, d_Runtime_given, d_Runtime_book, d_Runtime_groups, d_Runtime_many, d_Runtime_copy, d_is_number, d_joined]
def fn2 : List He.DefD := [d_book_text, d_given_line, d_is_name, d_are_kinds, d_fits, d_words_of, d_numbers_of, d_told_ask, d_told_given, d_told_show, d_told_width, d_told_slots, d_told_groups, d_Desk_init, d_Desk_tell, d_Desk_done, d_Desk_all_names, d_Desk_undo, d_Desk_undoable, d_law_flow]
def fn3 : List He.DefD := [d_law_draw, d_law_parents, d_law_lot, d_law_name, d_law_joined, d_law_lots, d_law_runtime, d_law_none, d_law_answer, d_law_tell, d_law_asked, d_law_load, d_law_undo, d_law_changed, d_law_stands, d_law]
def fn : List He.DefD := fn0 ++ (fn1 ++ (fn2 ++ (fn3)))
def fa0 : List He.Fa := [.glo "is_integer", .glo "is_within", .glo "is_lot", .glo "check_kind_of", .glo "check_most", .glo "are_parents", .glo "book_of", .glo "grown", .glo "many_of", .glo "is_one", .glo "entries_of", .glo "rows_of", .glo "all_kinds", .glo "width", .glo "told", .glo "groups_from", .glo "first_step", .glo "next_step", .glo "is_number", .glo "joined"]
def fa1 : List He.Fa := [.glo "book_text", .glo "given_line", .glo "is_name", .glo "are_kinds", .glo "fits", .glo "words_of", .glo "numbers_of", .glo "told_ask", .glo "told_given", .glo "told_show", .glo "told_width", .glo "told_slots", .glo "told_groups", .glo "_law_flow", .glo "_law_draw", .glo "_law_parents", .glo "_law_lot", .glo "_law_name", .glo "_law_joined", .glo "_law_lots"]
def fa2 : List He.Fa := [.glo "_law_runtime", .glo "_law_none", .glo "_law_answer", .glo "_law_tell", .glo "_law_asked", .glo "_law_load", .glo "_law_undo", .glo "_law_changed", .glo "_law_stands", .glo "law", .glo "Book", .glo "Groups", .glo "Rows", .glo "Runtime", .glo "Desk", .glo "NoKind", .glo "BadKind", .glo "NothingDone", .glo "NoBook", .glo "FORMS"]
def fa3 : List He.Fa := [.glo "ANSWERS", .cls "Book", .mkr "Book", .noat "Book" "parents", .noat "Book" "bits", .cls "Groups", .mkr "Groups", .noat "Groups" "lots", .noat "Groups" "held", .cls "Rows", .mkr "Rows", .noat "Rows" "sheet", .noat "Rows" "later", .noat "Rows" "ahead", .noat "Rows" "there", .cls "Runtime", .mkr "Runtime", .noat "Runtime" "steps", .cls "Desk", .mkr "Desk"]
def fa4 : List He.Fa := [.noat "Desk" "tables", .meth "Book" "fill", .meth "Groups" "fitting", .meth "Groups" "taken", .meth "Groups" "put", .meth "Groups" "told", .meth "Rows" "put", .meth "Rows" "forebears_here", .meth "Rows" "join", .meth "Rows" "many", .meth "Runtime" "load", .meth "Runtime" "ask", .meth "Runtime" "given", .meth "Runtime" "book", .meth "Runtime" "groups", .meth "Runtime" "many", .meth "Runtime" "copy", .meth "Desk" "tell", .meth "Desk" "done", .meth "Desk" "all_names"]
def fa5 : List He.Fa := [.meth "Desk" "undo", .meth "Desk" "undoable", .free "ValueError", .free "abs", .free "all", .free "bool", .free "dict", .free "enumerate", .free "int", .free "isinstance", .free "len", .free "list", .free "max", .free "min", .free "range", .free "repr", .free "set", .free "sorted", .free "str", .free "super"]
def fa6 : List He.Fa := [.free "tuple", .free "zip", .int "MOST_KINDS" 400, .int "MOST_PARENTS" 6, .int "FEW" 9, .int "LONGEST" 8, .str "FIGURES" "0123456789", .str "LETTERS" "abcdefghijklmnopqrstuvwxyz", .exm "NoKind" "NoKind" true, .exm "NoKind" "BadKind" false, .exm "NoKind" "NothingDone" false, .exm "NoKind" "NoBook" false, .exm "BadKind" "NoKind" false, .exm "BadKind" "BadKind" true, .exm "BadKind" "NothingDone" false, .exm "BadKind" "NoBook" false, .exm "NothingDone" "NoKind" false, .exm "NothingDone" "BadKind" false, .exm "NothingDone" "NothingDone" true, .exm "NothingDone" "NoBook" false]
def fa7 : List He.Fa := [.exm "NoBook" "NoKind" false, .exm "NoBook" "BadKind" false, .exm "NoBook" "NothingDone" false, .exm "NoBook" "NoBook" true]
def fa : List He.Fa := fa0 ++ (fa1 ++ (fa2 ++ (fa3 ++ (fa4 ++ (fa5 ++ (fa6 ++ (fa7)))))))
/-! ### tables of the top -/
def formB (K : PySem.W.Frag) (key : Str) (parts : List Str) : Bool := match PySem.W.nsIn K (ga K "FORMS") key with
  | some (some (.ref t)) => (match K.lookup t with
    | some ⟨.type c, _, .seq its _, _⟩ => decide (c = "tuple") && (decide (its.size ≤ sizeLine) && He.relAll (parts.map V.str) its.toList)
    | _ => false)
  | _ => false
def FormOk (K : PySem.W.Frag) (key : Str) (parts : List Str) : Prop := ∃ t, PySem.W.nsIn K (ga K "FORMS") key = some (some (.ref t)) ∧ ∀ H, SqT K H t (parts.map V.str)
theorem formB_ok {K : PySem.W.Frag} {key : Str} {parts : List Str} (h : formB K key parts = true) : FormOk K key parts := by
  unfold formB at h
  split at h
  · rename_i t e
    split at h
    · rename_i c od its n sl q
      obtain ⟨h1, h2⟩ := He.ba h
      obtain ⟨h3, h4⟩ := He.ba h2
      exact ⟨t, e, fun H => .inr ⟨_, its, n, q, congrArg Value.type (of_decide_eq_true h1), rfl, of_decide_eq_true h3, He.relAll_ok h4⟩⟩
    · cases h
  · cases h
def ansB (K : PySem.W.Frag) (key : Str) (f : Str) : Bool := decide (PySem.W.nsIn K (ga K "ANSWERS") key = some (some (.ref (ga K f))))
/-! ### own errors -/
abbrev FnE : Type := Option (Str × Str × Arguments × FuncBody × Scope × Addr × List Str × Addr)
def fnE (K : PySem.W.Frag) (x : Str) : FnE := match K.lookup (ma K (ga K x) "__init__") with
  | some ⟨_, _, .func fd, _⟩ => some (fd.name, fd.qualname, fd.params, fd.body, fd.scope, fd.globals, fd.closure.map (·.1), fd.builtins)
  | _ => none
def veTl : List Value := [.type "ValueError", .type "Exception", .type "BaseException", .type "object"]
def clsE (K : PySem.W.Frag) (C : Addr) : Bool := match K.lookup C with
  | some ⟨.type "type", _, .cls cd, sl⟩ => (match cd.mro, sl.toList with
    | .ref C' :: bm, [_, _, _, _, some (.builtin n), _] => decide (C' = C) && (decide (n = "ValueError.__new__") && (!cd.hasDel && (cd.hasDict && (HandSPX.refsVE bm && decide (PySem.W.alongIn K "__init__" bm = some (some (.builtin "ValueError.__init__")))))))
    | _, _ => false)
  | _ => false
theorem clsE_ok {K : PySem.W.Frag} {C : Addr} (h : clsE K C = true) : ∃ nm q N bs bm sn sub ab col dd k0 k1 k2 k3 k5, K.lookup C = some (excClassObj nm q C N bs bm true sn sub ab col dd k0 k1 k2 k3 k5 "ValueError.__new__") ∧ HandSPX.refsVE bm = true ∧
    PySem.W.alongIn K "__init__" bm = some (some (.builtin "ValueError.__init__")) := by
  unfold clsE at h
  split at h
  · rename_i dd cd sl ho
    split at h
    · rename_i C' bm k0 k1 k2 k3 n k5 hm hs
      obtain ⟨h1, h⟩ := He.ba h
      obtain ⟨h2, h⟩ := He.ba h
      obtain ⟨h3, h⟩ := He.ba h
      obtain ⟨h4, h⟩ := He.ba h
      obtain ⟨h5, h6⟩ := He.ba h
      obtain rfl := of_decide_eq_true h1
      obtain rfl := of_decide_eq_true h2
      obtain ⟨nm, bs, mro, ns, qn, hd, sn, sub, ab, col, del⟩ := cd
      dsimp only at hm h3 h4
      subst hm
      have h3' : del = false := by cases del <;> first | rfl | cases h3
      subst h3'
      subst h4
      have hsl : sl = #[k0, k1, k2, k3, some (.builtin "ValueError.__new__"), k5] := by
        obtain ⟨l⟩ := sl
        simp only at hs
        rw [hs]
      subst hsl
      exact ⟨nm, qn, ns, bs, bm, sn, sub, ab, col, dd, k0, k1, k2, k3, k5, ho, h5, of_decide_eq_true h6⟩
    · cases h
  · cases h
def excB (K : PySem.W.Frag) (x q : Str) : Bool := clsE K (ga K x) && (decide (PySem.W.findIn K (.ref (ga K x)) "__setattr__" = some (some (.builtin "object.__setattr__"))) && (decide (PySem.W.subIn K (.ref (ga K x)) (.type "BaseException") = some true) &&
  (decide (PySem.W.typeIn K (.ref (ga K x)) = some (.type "type")) && (PySem.W.keepIn K (.ref (ga K x)) && (decide (PySem.W.findIn K (.ref (ga K x)) "__init__" = some (some (.ref (ma K (ga K x) "__init__")))) &&
  (decide (PySem.W.typeIn K (.ref (ma K (ga K x) "__init__")) = some (.type "function")) && (decide (PySem.W.subIn K (.ref (ga K x)) (.type "ValueError") = some true) && (decide (PySem.W.mroIn K (ga K x) (.ref (ga K x)) = some true) &&
  (decide (PySem.W.nsIn K cStatics "thirdparty.any" = some none) && (match K.lookup (ma K (ga K x) "__init__") with
    | some ⟨_, _, .func fd, _⟩ => (match fd.defaults, fd.code, fd.closure with
      | .none, .ref cda, [(_, cc)] => PySem.W.codeIn K (.ref cda) q && (match K.lookup cc, K.lookup cda with
        | some ⟨_, _, .cell (some (.ref C')), _⟩, some ⟨_, _, .fields vs, _⟩ => decide (C' = ga K x) && (match (vs[2]? : Option Value) with
          | some (Value.str file _) => decide (file = "/claim/cut.py")
          | _ => false)
        | _, _ => false)
      | _, _, _ => false)
    | _ => false))))))))))
theorem excB_ok {K : PySem.W.Frag} {x q : Str} {params : Arguments} {body : List Stmt} {scope : Scope} (h : excB K x q = true) (e : fnE K x = (some ("__init__", q, params, .stmts body, scope, mainGlobals, ["__class__"], builtinsNs) : FnE)) : ExT K "/claim/cut.py" (ga K x) (ma K (ga K x) "__init__") q params body scope := by
  obtain ⟨h1, h⟩ := He.ba h
  obtain ⟨h2, h⟩ := He.ba h
  obtain ⟨h3, h⟩ := He.ba h
  obtain ⟨h4, h⟩ := He.ba h
  obtain ⟨h5, h⟩ := He.ba h
  obtain ⟨h6, h⟩ := He.ba h
  obtain ⟨h7, h⟩ := He.ba h
  obtain ⟨h8, h⟩ := He.ba h
  obtain ⟨h9, h⟩ := He.ba h
  obtain ⟨h10, h⟩ := He.ba h
  refine ⟨clsE_ok h1, of_decide_eq_true h2, of_decide_eq_true h3, of_decide_eq_true h4, h5, of_decide_eq_true h6, of_decide_eq_true h7, of_decide_eq_true h8, of_decide_eq_true h9, of_decide_eq_true h10, ?_⟩
  unfold fnE at e
  split at h
  · rename_i oc od fd osl lk
    rw [lk] at e
    obtain ⟨n1, n2, n3, n4, n5, n6, n7, n8, n9, n10, n11, n12, n13, n14, n15⟩ := fd
    have e2 := Option.some.inj e
    simp only [Prod.mk.injEq] at e2
    obtain ⟨r1, r2, r3, r4, r5, r6, r7, r8⟩ := e2
    subst r1 r2 r3 r4 r5 r6 r8
    dsimp only at h
    split at h
    · rename_i cda nm cc
      obtain ⟨c1, c2⟩ := He.ba h
      split at c2
      · rename_i ccl cld C' csl cl cdd vs ccs hcell hcode
        obtain ⟨c3, c4⟩ := He.ba c2
        obtain rfl := of_decide_eq_true c3
        split at c4
        · rename_i file tf hv
          obtain rfl := of_decide_eq_true c4
          have en : nm = ("__class__" : Str) := by
            have := r7
            simpa using this
          subst en
          exact ⟨oc, od, _, _, _, _, _, osl, cc, cda, _, _, _, _, _, _, vs, tf, lk, c1, hcell, hcode, hv⟩
        · cases c4
      · cases c2
    · cases h
  · cases h
def noB : PySem.W.Frag → Bool := fun K => He.eqO (PySem.W.findIn K (.ref (ga K "NoBook")) "name") (some none) && xfB K (ga K "NoBook")

def ex (K : PySem.W.Frag) : Bool := formB K "new" ["name"] && (formB K "load" ["name", "kinds"] && (formB K "drop" ["name"] && (formB K "names" [] && (formB K "undo" [] && (formB K "ask" ["name", "kind", "kind"] && (formB K "given" ["name", "kind"] && (formB K "show" ["name"] && (formB K "width" ["name"] && (formB K "slots" ["name"] && (formB K "groups" ["name"] && (ansB K "ask" "told_ask" && (ansB K "given" "told_given" && (ansB K "show" "told_show" && (ansB K "width" "told_width" && (ansB K "slots" "told_slots" && (ansB K "groups" "told_groups" && (excB K "NoKind" "NoKind.__init__" && (excB K "BadKind" "BadKind.__init__" && (excB K "NothingDone" "NothingDone.__init__" && (excB K "NoBook" "NoBook.__init__" && (noB K)))))))))))))))))))))
def exN : List Str := ["NoKind", "BadKind", "NothingDone", "NoBook"]
def exV : List FnE := [some ("__init__", "NoKind.__init__", defArgs s_NoKind_init, .stmts (defBody s_NoKind_init), defScope s_NoKind_init, mainGlobals, ["__class__"], builtinsNs), some ("__init__", "BadKind.__init__", defArgs s_BadKind_init, .stmts (defBody s_BadKind_init), defScope s_BadKind_init, mainGlobals, ["__class__"], builtinsNs), some ("__init__", "NothingDone.__init__", defArgs s_NothingDone_init, .stmts (defBody s_NothingDone_init), defScope s_NothingDone_init, mainGlobals, ["__class__"], builtinsNs), some ("__init__", "NoBook.__init__", defArgs s_NoBook_init, .stmts (defBody s_NoBook_init), defScope s_NoBook_init, mainGlobals, ["__class__"], builtinsNs)]
def kForms : List Str := ["new", "load", "drop", "names", "undo", "ask", "given", "show", "width", "slots", "groups"]
def kAns : List Str := ["ask", "given", "show", "width", "slots", "groups"]
/-! ### the Hook: the objects that matter, level by level -/
def refsL (ob : Obj) : List Addr := match ob.data with
  | .func fd => He.refV fd.code ++ fd.closure.map (·.2)
  | .cls cd => [cd.ns]
  | .dict es _ => es.toList.flatMap fun e => He.refV e.val
  | _ => []
def nextL (g : Addr → Option Obj) (as : List Addr) : List Addr := as.flatMap fun a => match g a with
  | some ob => refsL ob
  | none => []
def asK (l1 l2 l3 l4 : List Addr) : List Addr := mainGlobals :: cStatics :: (l1 ++ (l2 ++ (l3 ++ l4)))
def asL (g : Addr → Option Obj) : List Addr :=
  asK (nextL g [mainGlobals]) (nextL g (nextL g [mainGlobals])) (nextL g (nextL g (nextL g [mainGlobals]))) (nextL g (nextL g (nextL g (nextL g [mainGlobals]))))
abbrev Al : Type := (He.AlD × Bool) × (List FnE × List (Option (List (Option (Str × Int)))))
def obsK (K : PySem.W.Frag) : Al := ((He.obsD fa fn K, ex K), (exN.map (fnE K), [He.dicW K (ga K "FORMS"), He.dicW K (ga K "ANSWERS")]))
def valK (w : World) : Al := ((He.valD fn, true), (exV, [some (He.keysIn w.params kForms), some (He.keysIn w.params kAns)]))
def obsG (g : Addr → Option Obj) : Al := obsK (He.frG g (asL g))
def Says (w : World) (K : PySem.W.Frag) : Prop := obsK K = valK w
def hk : PySem.W.Hook where
  α := Al
  obs := fun s => obsG s.heap.get?
  val := fun w => valK w
  says := fun w h => ∃ K : PySem.W.Frag, K.In h ∧ Says w K
  of := fun _ _ e => ⟨_, He.frG_in, e⟩
  keeps := fun _ _ _ ⟨K, hK, c⟩ k => ⟨K, PySem.W.Frag.In.keeps hK k, c⟩
def ob (s : PySem.W.SharedT) : Al := obsG (HandSHeadRun.getT s)
theorem ob_eq (s : PySem.W.SharedT) : ob s = hk.obs s.abs := by
  show obsG (HandSHeadRun.getT s) = obsG s.abs.heap.get?
  rw [show HandSHeadRun.getT s = s.abs.heap.get? from funext (HandSHeadRun.getT_eq s)]
/-! ### what the proofs of the defs lean on -/
structure Tx (K : PySem.W.Frag) (mg : Str → Option Value) : Prop where
  g_is_integer : mg "is_integer" = some (.ref (ga K "is_integer"))
  g_is_within : mg "is_within" = some (.ref (ga K "is_within"))
  g_is_lot : mg "is_lot" = some (.ref (ga K "is_lot"))
  g_check_kind_of : mg "check_kind_of" = some (.ref (ga K "check_kind_of"))
  g_check_most : mg "check_most" = some (.ref (ga K "check_most"))
  g_are_parents : mg "are_parents" = some (.ref (ga K "are_parents"))
  g_book_of : mg "book_of" = some (.ref (ga K "book_of"))
  g_grown : mg "grown" = some (.ref (ga K "grown"))
  g_many_of : mg "many_of" = some (.ref (ga K "many_of"))
  g_is_one : mg "is_one" = some (.ref (ga K "is_one"))
  g_entries_of : mg "entries_of" = some (.ref (ga K "entries_of"))
  g_rows_of : mg "rows_of" = some (.ref (ga K "rows_of"))
  g_all_kinds : mg "all_kinds" = some (.ref (ga K "all_kinds"))
  g_width : mg "width" = some (.ref (ga K "width"))
  g_told : mg "told" = some (.ref (ga K "told"))
  g_groups_from : mg "groups_from" = some (.ref (ga K "groups_from"))
  g_first_step : mg "first_step" = some (.ref (ga K "first_step"))
  g_next_step : mg "next_step" = some (.ref (ga K "next_step"))
  g_is_number : mg "is_number" = some (.ref (ga K "is_number"))
  g_joined : mg "joined" = some (.ref (ga K "joined"))
  g_book_text : mg "book_text" = some (.ref (ga K "book_text"))
  g_given_line : mg "given_line" = some (.ref (ga K "given_line"))
  g_is_name : mg "is_name" = some (.ref (ga K "is_name"))
  g_are_kinds : mg "are_kinds" = some (.ref (ga K "are_kinds"))
  g_fits : mg "fits" = some (.ref (ga K "fits"))
  g_words_of : mg "words_of" = some (.ref (ga K "words_of"))
  g_numbers_of : mg "numbers_of" = some (.ref (ga K "numbers_of"))
  g_told_ask : mg "told_ask" = some (.ref (ga K "told_ask"))
  g_told_given : mg "told_given" = some (.ref (ga K "told_given"))
  g_told_show : mg "told_show" = some (.ref (ga K "told_show"))
  g_told_width : mg "told_width" = some (.ref (ga K "told_width"))
  g_told_slots : mg "told_slots" = some (.ref (ga K "told_slots"))
  g_told_groups : mg "told_groups" = some (.ref (ga K "told_groups"))
  g_law_flow : mg "_law_flow" = some (.ref (ga K "_law_flow"))
  g_law_draw : mg "_law_draw" = some (.ref (ga K "_law_draw"))
  g_law_parents : mg "_law_parents" = some (.ref (ga K "_law_parents"))
  g_law_lot : mg "_law_lot" = some (.ref (ga K "_law_lot"))
  g_law_name : mg "_law_name" = some (.ref (ga K "_law_name"))
  g_law_joined : mg "_law_joined" = some (.ref (ga K "_law_joined"))
  g_law_lots : mg "_law_lots" = some (.ref (ga K "_law_lots"))
  g_law_runtime : mg "_law_runtime" = some (.ref (ga K "_law_runtime"))
  g_law_none : mg "_law_none" = some (.ref (ga K "_law_none"))
  g_law_answer : mg "_law_answer" = some (.ref (ga K "_law_answer"))
  g_law_tell : mg "_law_tell" = some (.ref (ga K "_law_tell"))
  g_law_asked : mg "_law_asked" = some (.ref (ga K "_law_asked"))
  g_law_load : mg "_law_load" = some (.ref (ga K "_law_load"))
  g_law_undo : mg "_law_undo" = some (.ref (ga K "_law_undo"))
  g_law_changed : mg "_law_changed" = some (.ref (ga K "_law_changed"))
  g_law_stands : mg "_law_stands" = some (.ref (ga K "_law_stands"))
  g_law : mg "law" = some (.ref (ga K "law"))
  g_Book : mg "Book" = some (.ref (ga K "Book"))
  g_Groups : mg "Groups" = some (.ref (ga K "Groups"))
  g_Rows : mg "Rows" = some (.ref (ga K "Rows"))
  g_Runtime : mg "Runtime" = some (.ref (ga K "Runtime"))
  g_Desk : mg "Desk" = some (.ref (ga K "Desk"))
  g_NoKind : mg "NoKind" = some (.ref (ga K "NoKind"))
  g_BadKind : mg "BadKind" = some (.ref (ga K "BadKind"))
  g_NothingDone : mg "NothingDone" = some (.ref (ga K "NothingDone"))
  g_NoBook : mg "NoBook" = some (.ref (ga K "NoBook"))
  g_FORMS : mg "FORMS" = some (.ref (ga K "FORMS"))
  g_ANSWERS : mg "ANSWERS" = some (.ref (ga K "ANSWERS"))
  c_Book : Cls K (ga K "Book")
  k_Book : Mk K (ga K "Book") (ma K (ga K "Book") "__init__")
  n_Book_parents : NoAttr K (ga K "Book") "parents"
  n_Book_bits : NoAttr K (ga K "Book") "bits"
  c_Groups : Cls K (ga K "Groups")
  k_Groups : Mk K (ga K "Groups") (ma K (ga K "Groups") "__init__")
  n_Groups_lots : NoAttr K (ga K "Groups") "lots"
  n_Groups_held : NoAttr K (ga K "Groups") "held"
  c_Rows : Cls K (ga K "Rows")
  k_Rows : Mk K (ga K "Rows") (ma K (ga K "Rows") "__init__")
  n_Rows_sheet : NoAttr K (ga K "Rows") "sheet"
  n_Rows_later : NoAttr K (ga K "Rows") "later"
  n_Rows_ahead : NoAttr K (ga K "Rows") "ahead"
  n_Rows_there : NoAttr K (ga K "Rows") "there"
  c_Runtime : Cls K (ga K "Runtime")
  k_Runtime : Mk K (ga K "Runtime") (ma K (ga K "Runtime") "__init__")
  n_Runtime_steps : NoAttr K (ga K "Runtime") "steps"
  c_Desk : Cls K (ga K "Desk")
  k_Desk : Mk K (ga K "Desk") (ma K (ga K "Desk") "__init__")
  n_Desk_tables : NoAttr K (ga K "Desk") "tables"
  m_Book_fill : Meth K (ga K "Book") "fill" (ma K (ga K "Book") "fill")
  m_Groups_fitting : Meth K (ga K "Groups") "fitting" (ma K (ga K "Groups") "fitting")
  m_Groups_taken : Meth K (ga K "Groups") "taken" (ma K (ga K "Groups") "taken")
  m_Groups_put : Meth K (ga K "Groups") "put" (ma K (ga K "Groups") "put")
  m_Groups_told : Meth K (ga K "Groups") "told" (ma K (ga K "Groups") "told")
  m_Rows_put : Meth K (ga K "Rows") "put" (ma K (ga K "Rows") "put")
  m_Rows_forebears_here : Meth K (ga K "Rows") "forebears_here" (ma K (ga K "Rows") "forebears_here")
  m_Rows_join : Meth K (ga K "Rows") "join" (ma K (ga K "Rows") "join")
  m_Rows_many : Meth K (ga K "Rows") "many" (ma K (ga K "Rows") "many")
  m_Runtime_load : Meth K (ga K "Runtime") "load" (ma K (ga K "Runtime") "load")
  m_Runtime_ask : Meth K (ga K "Runtime") "ask" (ma K (ga K "Runtime") "ask")
  m_Runtime_given : Meth K (ga K "Runtime") "given" (ma K (ga K "Runtime") "given")
  m_Runtime_book : Meth K (ga K "Runtime") "book" (ma K (ga K "Runtime") "book")
  m_Runtime_groups : Meth K (ga K "Runtime") "groups" (ma K (ga K "Runtime") "groups")
  m_Runtime_many : Meth K (ga K "Runtime") "many" (ma K (ga K "Runtime") "many")
  m_Runtime_copy : Meth K (ga K "Runtime") "copy" (ma K (ga K "Runtime") "copy")
  m_Desk_tell : Meth K (ga K "Desk") "tell" (ma K (ga K "Desk") "tell")
  m_Desk_done : Meth K (ga K "Desk") "done" (ma K (ga K "Desk") "done")
  m_Desk_all_names : Meth K (ga K "Desk") "all_names" (ma K (ga K "Desk") "all_names")
  m_Desk_undo : Meth K (ga K "Desk") "undo" (ma K (ga K "Desk") "undo")
  m_Desk_undoable : Meth K (ga K "Desk") "undoable" (ma K (ga K "Desk") "undoable")
  b_ValueError : mg "ValueError" = none
  b_abs : mg "abs" = none
  b_all : mg "all" = none
  b_bool : mg "bool" = none
  b_dict : mg "dict" = none
  b_enumerate : mg "enumerate" = none
  b_int : mg "int" = none
  b_isinstance : mg "isinstance" = none
  b_len : mg "len" = none
  b_list : mg "list" = none
  b_max : mg "max" = none
  b_min : mg "min" = none
  b_range : mg "range" = none
  b_repr : mg "repr" = none
  b_set : mg "set" = none
  b_sorted : mg "sorted" = none
  b_str : mg "str" = none
  b_super : mg "super" = none
  b_tuple : mg "tuple" = none
  b_zip : mg "zip" = none
  i_MOST_KINDS : ∃ t, mg "MOST_KINDS" = some (.int 400 t)
  i_MOST_PARENTS : ∃ t, mg "MOST_PARENTS" = some (.int 6 t)
  i_FEW : ∃ t, mg "FEW" = some (.int 9 t)
  i_LONGEST : ∃ t, mg "LONGEST" = some (.int 8 t)
  i_FIGURES : ∃ t, mg "FIGURES" = some (.str "0123456789" t)
  i_LETTERS : ∃ t, mg "LETTERS" = some (.str "abcdefghijklmnopqrstuvwxyz" t)
  x_NoKind_NoKind : PySem.W.exmOne K (.ref (ga K "NoKind")) (.ref (ga K "NoKind")) = some true
  x_NoKind_BadKind : PySem.W.exmOne K (.ref (ga K "NoKind")) (.ref (ga K "BadKind")) = some false
  x_NoKind_NothingDone : PySem.W.exmOne K (.ref (ga K "NoKind")) (.ref (ga K "NothingDone")) = some false
  x_NoKind_NoBook : PySem.W.exmOne K (.ref (ga K "NoKind")) (.ref (ga K "NoBook")) = some false
  x_BadKind_NoKind : PySem.W.exmOne K (.ref (ga K "BadKind")) (.ref (ga K "NoKind")) = some false
  x_BadKind_BadKind : PySem.W.exmOne K (.ref (ga K "BadKind")) (.ref (ga K "BadKind")) = some true
  x_BadKind_NothingDone : PySem.W.exmOne K (.ref (ga K "BadKind")) (.ref (ga K "NothingDone")) = some false
  x_BadKind_NoBook : PySem.W.exmOne K (.ref (ga K "BadKind")) (.ref (ga K "NoBook")) = some false
  x_NothingDone_NoKind : PySem.W.exmOne K (.ref (ga K "NothingDone")) (.ref (ga K "NoKind")) = some false
  x_NothingDone_BadKind : PySem.W.exmOne K (.ref (ga K "NothingDone")) (.ref (ga K "BadKind")) = some false
  x_NothingDone_NothingDone : PySem.W.exmOne K (.ref (ga K "NothingDone")) (.ref (ga K "NothingDone")) = some true
  x_NothingDone_NoBook : PySem.W.exmOne K (.ref (ga K "NothingDone")) (.ref (ga K "NoBook")) = some false
  x_NoBook_NoKind : PySem.W.exmOne K (.ref (ga K "NoBook")) (.ref (ga K "NoKind")) = some false
  x_NoBook_BadKind : PySem.W.exmOne K (.ref (ga K "NoBook")) (.ref (ga K "BadKind")) = some false
  x_NoBook_NothingDone : PySem.W.exmOne K (.ref (ga K "NoBook")) (.ref (ga K "NothingDone")) = some false
  x_NoBook_NoBook : PySem.W.exmOne K (.ref (ga K "NoBook")) (.ref (ga K "NoBook")) = some true
theorem tx_of {K : PySem.W.Frag} {mg : Str → Option Value} {h : Heap} (X : K.In h) (G : h.Ns mainGlobals mg) (c : He.SaysD fa fn K) : Tx K mg := {
  g_is_integer := He.glo_ok X G (c.fact 0 (f := .glo "is_integer") rfl),
  g_is_within := He.glo_ok X G (c.fact 1 (f := .glo "is_within") rfl),
  g_is_lot := He.glo_ok X G (c.fact 2 (f := .glo "is_lot") rfl),
  g_check_kind_of := He.glo_ok X G (c.fact 3 (f := .glo "check_kind_of") rfl),
  g_check_most := He.glo_ok X G (c.fact 4 (f := .glo "check_most") rfl),
  g_are_parents := He.glo_ok X G (c.fact 5 (f := .glo "are_parents") rfl),
  g_book_of := He.glo_ok X G (c.fact 6 (f := .glo "book_of") rfl),
  g_grown := He.glo_ok X G (c.fact 7 (f := .glo "grown") rfl),
  g_many_of := He.glo_ok X G (c.fact 8 (f := .glo "many_of") rfl),
  g_is_one := He.glo_ok X G (c.fact 9 (f := .glo "is_one") rfl),
  g_entries_of := He.glo_ok X G (c.fact 10 (f := .glo "entries_of") rfl),
  g_rows_of := He.glo_ok X G (c.fact 11 (f := .glo "rows_of") rfl),
  g_all_kinds := He.glo_ok X G (c.fact 12 (f := .glo "all_kinds") rfl),
  g_width := He.glo_ok X G (c.fact 13 (f := .glo "width") rfl),
  g_told := He.glo_ok X G (c.fact 14 (f := .glo "told") rfl),
  g_groups_from := He.glo_ok X G (c.fact 15 (f := .glo "groups_from") rfl),
  g_first_step := He.glo_ok X G (c.fact 16 (f := .glo "first_step") rfl),
  g_next_step := He.glo_ok X G (c.fact 17 (f := .glo "next_step") rfl),
  g_is_number := He.glo_ok X G (c.fact 18 (f := .glo "is_number") rfl),
  g_joined := He.glo_ok X G (c.fact 19 (f := .glo "joined") rfl),
  g_book_text := He.glo_ok X G (c.fact 20 (f := .glo "book_text") rfl),
  g_given_line := He.glo_ok X G (c.fact 21 (f := .glo "given_line") rfl),
  g_is_name := He.glo_ok X G (c.fact 22 (f := .glo "is_name") rfl),
  g_are_kinds := He.glo_ok X G (c.fact 23 (f := .glo "are_kinds") rfl),
  g_fits := He.glo_ok X G (c.fact 24 (f := .glo "fits") rfl),
  g_words_of := He.glo_ok X G (c.fact 25 (f := .glo "words_of") rfl),
  g_numbers_of := He.glo_ok X G (c.fact 26 (f := .glo "numbers_of") rfl),
  g_told_ask := He.glo_ok X G (c.fact 27 (f := .glo "told_ask") rfl),
  g_told_given := He.glo_ok X G (c.fact 28 (f := .glo "told_given") rfl),
  g_told_show := He.glo_ok X G (c.fact 29 (f := .glo "told_show") rfl),
  g_told_width := He.glo_ok X G (c.fact 30 (f := .glo "told_width") rfl),
  g_told_slots := He.glo_ok X G (c.fact 31 (f := .glo "told_slots") rfl),
  g_told_groups := He.glo_ok X G (c.fact 32 (f := .glo "told_groups") rfl),
  g_law_flow := He.glo_ok X G (c.fact 33 (f := .glo "_law_flow") rfl),
  g_law_draw := He.glo_ok X G (c.fact 34 (f := .glo "_law_draw") rfl),
  g_law_parents := He.glo_ok X G (c.fact 35 (f := .glo "_law_parents") rfl),
  g_law_lot := He.glo_ok X G (c.fact 36 (f := .glo "_law_lot") rfl),
  g_law_name := He.glo_ok X G (c.fact 37 (f := .glo "_law_name") rfl),
  g_law_joined := He.glo_ok X G (c.fact 38 (f := .glo "_law_joined") rfl),
  g_law_lots := He.glo_ok X G (c.fact 39 (f := .glo "_law_lots") rfl),
  g_law_runtime := He.glo_ok X G (c.fact 40 (f := .glo "_law_runtime") rfl),
  g_law_none := He.glo_ok X G (c.fact 41 (f := .glo "_law_none") rfl),
  g_law_answer := He.glo_ok X G (c.fact 42 (f := .glo "_law_answer") rfl),
  g_law_tell := He.glo_ok X G (c.fact 43 (f := .glo "_law_tell") rfl),
  g_law_asked := He.glo_ok X G (c.fact 44 (f := .glo "_law_asked") rfl),
  g_law_load := He.glo_ok X G (c.fact 45 (f := .glo "_law_load") rfl),
  g_law_undo := He.glo_ok X G (c.fact 46 (f := .glo "_law_undo") rfl),
  g_law_changed := He.glo_ok X G (c.fact 47 (f := .glo "_law_changed") rfl),
  g_law_stands := He.glo_ok X G (c.fact 48 (f := .glo "_law_stands") rfl),
  g_law := He.glo_ok X G (c.fact 49 (f := .glo "law") rfl),
  g_Book := He.glo_ok X G (c.fact 50 (f := .glo "Book") rfl),
  g_Groups := He.glo_ok X G (c.fact 51 (f := .glo "Groups") rfl),
  g_Rows := He.glo_ok X G (c.fact 52 (f := .glo "Rows") rfl),
  g_Runtime := He.glo_ok X G (c.fact 53 (f := .glo "Runtime") rfl),
  g_Desk := He.glo_ok X G (c.fact 54 (f := .glo "Desk") rfl),
  g_NoKind := He.glo_ok X G (c.fact 55 (f := .glo "NoKind") rfl),
  g_BadKind := He.glo_ok X G (c.fact 56 (f := .glo "BadKind") rfl),
  g_NothingDone := He.glo_ok X G (c.fact 57 (f := .glo "NothingDone") rfl),
  g_NoBook := He.glo_ok X G (c.fact 58 (f := .glo "NoBook") rfl),
  g_FORMS := He.glo_ok X G (c.fact 59 (f := .glo "FORMS") rfl),
  g_ANSWERS := He.glo_ok X G (c.fact 60 (f := .glo "ANSWERS") rfl),
  c_Book := He.cls_ok (c.fact 61 (f := .cls "Book") rfl),
  k_Book := He.mkr_ok (c.fact 62 (f := .mkr "Book") rfl),
  n_Book_parents := He.noat_ok (c.fact 63 (f := .noat "Book" "parents") rfl),
  n_Book_bits := He.noat_ok (c.fact 64 (f := .noat "Book" "bits") rfl),
  c_Groups := He.cls_ok (c.fact 65 (f := .cls "Groups") rfl),
  k_Groups := He.mkr_ok (c.fact 66 (f := .mkr "Groups") rfl),
  n_Groups_lots := He.noat_ok (c.fact 67 (f := .noat "Groups" "lots") rfl),
  n_Groups_held := He.noat_ok (c.fact 68 (f := .noat "Groups" "held") rfl),
  c_Rows := He.cls_ok (c.fact 69 (f := .cls "Rows") rfl),
  k_Rows := He.mkr_ok (c.fact 70 (f := .mkr "Rows") rfl),
  n_Rows_sheet := He.noat_ok (c.fact 71 (f := .noat "Rows" "sheet") rfl),
  n_Rows_later := He.noat_ok (c.fact 72 (f := .noat "Rows" "later") rfl),
  n_Rows_ahead := He.noat_ok (c.fact 73 (f := .noat "Rows" "ahead") rfl),
  n_Rows_there := He.noat_ok (c.fact 74 (f := .noat "Rows" "there") rfl),
  c_Runtime := He.cls_ok (c.fact 75 (f := .cls "Runtime") rfl),
  k_Runtime := He.mkr_ok (c.fact 76 (f := .mkr "Runtime") rfl),
  n_Runtime_steps := He.noat_ok (c.fact 77 (f := .noat "Runtime" "steps") rfl),
  c_Desk := He.cls_ok (c.fact 78 (f := .cls "Desk") rfl),
  k_Desk := He.mkr_ok (c.fact 79 (f := .mkr "Desk") rfl),
  n_Desk_tables := He.noat_ok (c.fact 80 (f := .noat "Desk" "tables") rfl),
  m_Book_fill := He.meth_ok (c.fact 81 (f := .meth "Book" "fill") rfl),
  m_Groups_fitting := He.meth_ok (c.fact 82 (f := .meth "Groups" "fitting") rfl),
  m_Groups_taken := He.meth_ok (c.fact 83 (f := .meth "Groups" "taken") rfl),
  m_Groups_put := He.meth_ok (c.fact 84 (f := .meth "Groups" "put") rfl),
  m_Groups_told := He.meth_ok (c.fact 85 (f := .meth "Groups" "told") rfl),
  m_Rows_put := He.meth_ok (c.fact 86 (f := .meth "Rows" "put") rfl),
  m_Rows_forebears_here := He.meth_ok (c.fact 87 (f := .meth "Rows" "forebears_here") rfl),
  m_Rows_join := He.meth_ok (c.fact 88 (f := .meth "Rows" "join") rfl),
  m_Rows_many := He.meth_ok (c.fact 89 (f := .meth "Rows" "many") rfl),
  m_Runtime_load := He.meth_ok (c.fact 90 (f := .meth "Runtime" "load") rfl),
  m_Runtime_ask := He.meth_ok (c.fact 91 (f := .meth "Runtime" "ask") rfl),
  m_Runtime_given := He.meth_ok (c.fact 92 (f := .meth "Runtime" "given") rfl),
  m_Runtime_book := He.meth_ok (c.fact 93 (f := .meth "Runtime" "book") rfl),
  m_Runtime_groups := He.meth_ok (c.fact 94 (f := .meth "Runtime" "groups") rfl),
  m_Runtime_many := He.meth_ok (c.fact 95 (f := .meth "Runtime" "many") rfl),
  m_Runtime_copy := He.meth_ok (c.fact 96 (f := .meth "Runtime" "copy") rfl),
  m_Desk_tell := He.meth_ok (c.fact 97 (f := .meth "Desk" "tell") rfl),
  m_Desk_done := He.meth_ok (c.fact 98 (f := .meth "Desk" "done") rfl),
  m_Desk_all_names := He.meth_ok (c.fact 99 (f := .meth "Desk" "all_names") rfl),
  m_Desk_undo := He.meth_ok (c.fact 100 (f := .meth "Desk" "undo") rfl),
  m_Desk_undoable := He.meth_ok (c.fact 101 (f := .meth "Desk" "undoable") rfl),
  b_ValueError := He.free_ok X G (c.fact 102 (f := .free "ValueError") rfl),
  b_abs := He.free_ok X G (c.fact 103 (f := .free "abs") rfl),
  b_all := He.free_ok X G (c.fact 104 (f := .free "all") rfl),
  b_bool := He.free_ok X G (c.fact 105 (f := .free "bool") rfl),
  b_dict := He.free_ok X G (c.fact 106 (f := .free "dict") rfl),
  b_enumerate := He.free_ok X G (c.fact 107 (f := .free "enumerate") rfl),
  b_int := He.free_ok X G (c.fact 108 (f := .free "int") rfl),
  b_isinstance := He.free_ok X G (c.fact 109 (f := .free "isinstance") rfl),
  b_len := He.free_ok X G (c.fact 110 (f := .free "len") rfl),
  b_list := He.free_ok X G (c.fact 111 (f := .free "list") rfl),
  b_max := He.free_ok X G (c.fact 112 (f := .free "max") rfl),
  b_min := He.free_ok X G (c.fact 113 (f := .free "min") rfl),
  b_range := He.free_ok X G (c.fact 114 (f := .free "range") rfl),
  b_repr := He.free_ok X G (c.fact 115 (f := .free "repr") rfl),
  b_set := He.free_ok X G (c.fact 116 (f := .free "set") rfl),
  b_sorted := He.free_ok X G (c.fact 117 (f := .free "sorted") rfl),
  b_str := He.free_ok X G (c.fact 118 (f := .free "str") rfl),
  b_super := He.free_ok X G (c.fact 119 (f := .free "super") rfl),
  b_tuple := He.free_ok X G (c.fact 120 (f := .free "tuple") rfl),
  b_zip := He.free_ok X G (c.fact 121 (f := .free "zip") rfl),
  i_MOST_KINDS := He.int_ok X G (c.fact 122 (f := .int "MOST_KINDS" 400) rfl),
  i_MOST_PARENTS := He.int_ok X G (c.fact 123 (f := .int "MOST_PARENTS" 6) rfl),
  i_FEW := He.int_ok X G (c.fact 124 (f := .int "FEW" 9) rfl),
  i_LONGEST := He.int_ok X G (c.fact 125 (f := .int "LONGEST" 8) rfl),
  i_FIGURES := He.str_ok X G (c.fact 126 (f := .str "FIGURES" "0123456789") rfl),
  i_LETTERS := He.str_ok X G (c.fact 127 (f := .str "LETTERS" "abcdefghijklmnopqrstuvwxyz") rfl),
  x_NoKind_NoKind := He.exm_ok (c.fact 128 (f := .exm "NoKind" "NoKind" true) rfl),
  x_NoKind_BadKind := He.exm_ok (c.fact 129 (f := .exm "NoKind" "BadKind" false) rfl),
  x_NoKind_NothingDone := He.exm_ok (c.fact 130 (f := .exm "NoKind" "NothingDone" false) rfl),
  x_NoKind_NoBook := He.exm_ok (c.fact 131 (f := .exm "NoKind" "NoBook" false) rfl),
  x_BadKind_NoKind := He.exm_ok (c.fact 132 (f := .exm "BadKind" "NoKind" false) rfl),
  x_BadKind_BadKind := He.exm_ok (c.fact 133 (f := .exm "BadKind" "BadKind" true) rfl),
  x_BadKind_NothingDone := He.exm_ok (c.fact 134 (f := .exm "BadKind" "NothingDone" false) rfl),
  x_BadKind_NoBook := He.exm_ok (c.fact 135 (f := .exm "BadKind" "NoBook" false) rfl),
  x_NothingDone_NoKind := He.exm_ok (c.fact 136 (f := .exm "NothingDone" "NoKind" false) rfl),
  x_NothingDone_BadKind := He.exm_ok (c.fact 137 (f := .exm "NothingDone" "BadKind" false) rfl),
  x_NothingDone_NothingDone := He.exm_ok (c.fact 138 (f := .exm "NothingDone" "NothingDone" true) rfl),
  x_NothingDone_NoBook := He.exm_ok (c.fact 139 (f := .exm "NothingDone" "NoBook" false) rfl),
  x_NoBook_NoKind := He.exm_ok (c.fact 140 (f := .exm "NoBook" "NoKind" false) rfl),
  x_NoBook_BadKind := He.exm_ok (c.fact 141 (f := .exm "NoBook" "BadKind" false) rfl),
  x_NoBook_NothingDone := He.exm_ok (c.fact 142 (f := .exm "NoBook" "NothingDone" false) rfl),
  x_NoBook_NoBook := He.exm_ok (c.fact 143 (f := .exm "NoBook" "NoBook" true) rfl) }
/-- each def stands -/
abbrev FnP (K : PySem.W.Frag) (x qual : Str) (st : Stmt) (f : Addr) : Prop := ∃ fd, FunD K x qual (defArgs st) (defBody st) (defScope st) [] [] f fd
structure Fx (K : PySem.W.Frag) : Prop where
  f_is_integer : FnP K "is_integer" "is_integer" s_is_integer (ga K "is_integer")
  f_is_within : FnP K "is_within" "is_within" s_is_within (ga K "is_within")
  f_is_lot : FnP K "is_lot" "is_lot" s_is_lot (ga K "is_lot")
  f_check_kind_of : FnP K "check_kind_of" "check_kind_of" s_check_kind_of (ga K "check_kind_of")
  f_check_most : FnP K "check_most" "check_most" s_check_most (ga K "check_most")
  f_are_parents : FnP K "are_parents" "are_parents" s_are_parents (ga K "are_parents")
  f_Book_init : FnP K "__init__" "Book.__init__" s_Book_init (ma K (ga K "Book") "__init__")
  f_Book_fill : FnP K "fill" "Book.fill" s_Book_fill (ma K (ga K "Book") "fill")
  f_book_of : FnP K "book_of" "book_of" s_book_of (ga K "book_of")
  f_grown : FnP K "grown" "grown" s_grown (ga K "grown")
  f_many_of : FnP K "many_of" "many_of" s_many_of (ga K "many_of")
  f_is_one : FnP K "is_one" "is_one" s_is_one (ga K "is_one")
  f_Groups_init : FnP K "__init__" "Groups.__init__" s_Groups_init (ma K (ga K "Groups") "__init__")
  f_Groups_fitting : FnP K "fitting" "Groups.fitting" s_Groups_fitting (ma K (ga K "Groups") "fitting")
  f_Groups_taken : FnP K "taken" "Groups.taken" s_Groups_taken (ma K (ga K "Groups") "taken")
  f_Groups_put : FnP K "put" "Groups.put" s_Groups_put (ma K (ga K "Groups") "put")
  f_Groups_told : FnP K "told" "Groups.told" s_Groups_told (ma K (ga K "Groups") "told")
  f_entries_of : FnP K "entries_of" "entries_of" s_entries_of (ga K "entries_of")
  f_Rows_init : FnP K "__init__" "Rows.__init__" s_Rows_init (ma K (ga K "Rows") "__init__")
  f_Rows_put : FnP K "put" "Rows.put" s_Rows_put (ma K (ga K "Rows") "put")
  f_Rows_forebears_here : FnP K "forebears_here" "Rows.forebears_here" s_Rows_forebears_here (ma K (ga K "Rows") "forebears_here")
  f_Rows_join : FnP K "join" "Rows.join" s_Rows_join (ma K (ga K "Rows") "join")
  f_Rows_many : FnP K "many" "Rows.many" s_Rows_many (ma K (ga K "Rows") "many")
  f_rows_of : FnP K "rows_of" "rows_of" s_rows_of (ga K "rows_of")
  f_all_kinds : FnP K "all_kinds" "all_kinds" s_all_kinds (ga K "all_kinds")
  f_width : FnP K "width" "width" s_width (ga K "width")
  f_told : FnP K "told" "told" s_told (ga K "told")
  f_groups_from : FnP K "groups_from" "groups_from" s_groups_from (ga K "groups_from")
  f_first_step : FnP K "first_step" "first_step" s_first_step (ga K "first_step")
  f_next_step : FnP K "next_step" "next_step" s_next_step (ga K "next_step")
  f_Runtime_init : FnP K "__init__" "Runtime.__init__" s_Runtime_init (ma K (ga K "Runtime") "__init__")
  f_Runtime_load : FnP K "load" "Runtime.load" s_Runtime_load (ma K (ga K "Runtime") "load")
  f_Runtime_ask : FnP K "ask" "Runtime.ask" s_Runtime_ask (ma K (ga K "Runtime") "ask")
  f_Runtime_given : FnP K "given" "Runtime.given" s_Runtime_given (ma K (ga K "Runtime") "given")
  f_Runtime_book : FnP K "book" "Runtime.book" s_Runtime_book (ma K (ga K "Runtime") "book")
  f_Runtime_groups : FnP K "groups" "Runtime.groups" s_Runtime_groups (ma K (ga K "Runtime") "groups")
  f_Runtime_many : FnP K "many" "Runtime.many" s_Runtime_many (ma K (ga K "Runtime") "many")
  f_Runtime_copy : FnP K "copy" "Runtime.copy" s_Runtime_copy (ma K (ga K "Runtime") "copy")
  f_is_number : FnP K "is_number" "is_number" s_is_number (ga K "is_number")
  f_joined : FnP K "joined" "joined" s_joined (ga K "joined")
  f_book_text : FnP K "book_text" "book_text" s_book_text (ga K "book_text")
  f_given_line : FnP K "given_line" "given_line" s_given_line (ga K "given_line")
  f_is_name : FnP K "is_name" "is_name" s_is_name (ga K "is_name")
  f_are_kinds : FnP K "are_kinds" "are_kinds" s_are_kinds (ga K "are_kinds")
  f_fits : FnP K "fits" "fits" s_fits (ga K "fits")
  f_words_of : FnP K "words_of" "words_of" s_words_of (ga K "words_of")
  f_numbers_of : FnP K "numbers_of" "numbers_of" s_numbers_of (ga K "numbers_of")
  f_told_ask : FnP K "told_ask" "told_ask" s_told_ask (ga K "told_ask")
  f_told_given : FnP K "told_given" "told_given" s_told_given (ga K "told_given")
  f_told_show : FnP K "told_show" "told_show" s_told_show (ga K "told_show")
  f_told_width : FnP K "told_width" "told_width" s_told_width (ga K "told_width")
  f_told_slots : FnP K "told_slots" "told_slots" s_told_slots (ga K "told_slots")
  f_told_groups : FnP K "told_groups" "told_groups" s_told_groups (ga K "told_groups")
  f_Desk_init : FnP K "__init__" "Desk.__init__" s_Desk_init (ma K (ga K "Desk") "__init__")
  f_Desk_tell : FnP K "tell" "Desk.tell" s_Desk_tell (ma K (ga K "Desk") "tell")
  f_Desk_done : FnP K "done" "Desk.done" s_Desk_done (ma K (ga K "Desk") "done")
  f_Desk_all_names : FnP K "all_names" "Desk.all_names" s_Desk_all_names (ma K (ga K "Desk") "all_names")
  f_Desk_undo : FnP K "undo" "Desk.undo" s_Desk_undo (ma K (ga K "Desk") "undo")
  f_Desk_undoable : FnP K "undoable" "Desk.undoable" s_Desk_undoable (ma K (ga K "Desk") "undoable")
  f_law_flow : FnP K "_law_flow" "_law_flow" s_law_flow (ga K "_law_flow")
  f_law_draw : FnP K "_law_draw" "_law_draw" s_law_draw (ga K "_law_draw")
  f_law_parents : FnP K "_law_parents" "_law_parents" s_law_parents (ga K "_law_parents")
  f_law_lot : FnP K "_law_lot" "_law_lot" s_law_lot (ga K "_law_lot")
  f_law_name : FnP K "_law_name" "_law_name" s_law_name (ga K "_law_name")
  f_law_joined : FnP K "_law_joined" "_law_joined" s_law_joined (ga K "_law_joined")
  f_law_lots : FnP K "_law_lots" "_law_lots" s_law_lots (ga K "_law_lots")
  f_law_runtime : FnP K "_law_runtime" "_law_runtime" s_law_runtime (ga K "_law_runtime")
  f_law_none : FnP K "_law_none" "_law_none" s_law_none (ga K "_law_none")
  f_law_answer : FnP K "_law_answer" "_law_answer" s_law_answer (ga K "_law_answer")
  f_law_tell : FnP K "_law_tell" "_law_tell" s_law_tell (ga K "_law_tell")
  f_law_asked : FnP K "_law_asked" "_law_asked" s_law_asked (ga K "_law_asked")
  f_law_load : FnP K "_law_load" "_law_load" s_law_load (ga K "_law_load")
  f_law_undo : FnP K "_law_undo" "_law_undo" s_law_undo (ga K "_law_undo")
  f_law_changed : FnP K "_law_changed" "_law_changed" s_law_changed (ga K "_law_changed")
  f_law_stands : FnP K "_law_stands" "_law_stands" s_law_stands (ga K "_law_stands")
  f_law : FnP K "law" "law" s_law (ga K "law")
theorem fx_of {K : PySem.W.Frag} (c : He.SaysD fa fn K) : Fx K := {
  f_is_integer := c.def_ 0 (d := d_is_integer) rfl,
  f_is_within := c.def_ 1 (d := d_is_within) rfl,
  f_is_lot := c.def_ 2 (d := d_is_lot) rfl,
  f_check_kind_of := c.def_ 3 (d := d_check_kind_of) rfl,
  f_check_most := c.def_ 4 (d := d_check_most) rfl,
  f_are_parents := c.def_ 5 (d := d_are_parents) rfl,
  f_Book_init := c.def_ 6 (d := d_Book_init) rfl,
  f_Book_fill := c.def_ 7 (d := d_Book_fill) rfl,
  f_book_of := c.def_ 8 (d := d_book_of) rfl,
  f_grown := c.def_ 9 (d := d_grown) rfl,
  f_many_of := c.def_ 10 (d := d_many_of) rfl,
  f_is_one := c.def_ 11 (d := d_is_one) rfl,
  f_Groups_init := c.def_ 12 (d := d_Groups_init) rfl,
  f_Groups_fitting := c.def_ 13 (d := d_Groups_fitting) rfl,
  f_Groups_taken := c.def_ 14 (d := d_Groups_taken) rfl,
  f_Groups_put := c.def_ 15 (d := d_Groups_put) rfl,
  f_Groups_told := c.def_ 16 (d := d_Groups_told) rfl,
  f_entries_of := c.def_ 17 (d := d_entries_of) rfl,
  f_Rows_init := c.def_ 18 (d := d_Rows_init) rfl,
  f_Rows_put := c.def_ 19 (d := d_Rows_put) rfl,
  f_Rows_forebears_here := c.def_ 20 (d := d_Rows_forebears_here) rfl,
  f_Rows_join := c.def_ 21 (d := d_Rows_join) rfl,
  f_Rows_many := c.def_ 22 (d := d_Rows_many) rfl,
  f_rows_of := c.def_ 23 (d := d_rows_of) rfl,
  f_all_kinds := c.def_ 24 (d := d_all_kinds) rfl,
  f_width := c.def_ 25 (d := d_width) rfl,
  f_told := c.def_ 26 (d := d_told) rfl,
  f_groups_from := c.def_ 27 (d := d_groups_from) rfl,
  f_first_step := c.def_ 28 (d := d_first_step) rfl,
  f_next_step := c.def_ 29 (d := d_next_step) rfl,
  f_Runtime_init := c.def_ 30 (d := d_Runtime_init) rfl,
  f_Runtime_load := c.def_ 31 (d := d_Runtime_load) rfl,
  f_Runtime_ask := c.def_ 32 (d := d_Runtime_ask) rfl,
  f_Runtime_given := c.def_ 33 (d := d_Runtime_given) rfl,
  f_Runtime_book := c.def_ 34 (d := d_Runtime_book) rfl,
  f_Runtime_groups := c.def_ 35 (d := d_Runtime_groups) rfl,
  f_Runtime_many := c.def_ 36 (d := d_Runtime_many) rfl,
  f_Runtime_copy := c.def_ 37 (d := d_Runtime_copy) rfl,
  f_is_number := c.def_ 38 (d := d_is_number) rfl,
  f_joined := c.def_ 39 (d := d_joined) rfl,
  f_book_text := c.def_ 40 (d := d_book_text) rfl,
  f_given_line := c.def_ 41 (d := d_given_line) rfl,
  f_is_name := c.def_ 42 (d := d_is_name) rfl,
  f_are_kinds := c.def_ 43 (d := d_are_kinds) rfl,
  f_fits := c.def_ 44 (d := d_fits) rfl,
  f_words_of := c.def_ 45 (d := d_words_of) rfl,
  f_numbers_of := c.def_ 46 (d := d_numbers_of) rfl,
  f_told_ask := c.def_ 47 (d := d_told_ask) rfl,
  f_told_given := c.def_ 48 (d := d_told_given) rfl,
  f_told_show := c.def_ 49 (d := d_told_show) rfl,
  f_told_width := c.def_ 50 (d := d_told_width) rfl,
  f_told_slots := c.def_ 51 (d := d_told_slots) rfl,
  f_told_groups := c.def_ 52 (d := d_told_groups) rfl,
  f_Desk_init := c.def_ 53 (d := d_Desk_init) rfl,
  f_Desk_tell := c.def_ 54 (d := d_Desk_tell) rfl,
  f_Desk_done := c.def_ 55 (d := d_Desk_done) rfl,
  f_Desk_all_names := c.def_ 56 (d := d_Desk_all_names) rfl,
  f_Desk_undo := c.def_ 57 (d := d_Desk_undo) rfl,
  f_Desk_undoable := c.def_ 58 (d := d_Desk_undoable) rfl,
  f_law_flow := c.def_ 59 (d := d_law_flow) rfl,
  f_law_draw := c.def_ 60 (d := d_law_draw) rfl,
  f_law_parents := c.def_ 61 (d := d_law_parents) rfl,
  f_law_lot := c.def_ 62 (d := d_law_lot) rfl,
  f_law_name := c.def_ 63 (d := d_law_name) rfl,
  f_law_joined := c.def_ 64 (d := d_law_joined) rfl,
  f_law_lots := c.def_ 65 (d := d_law_lots) rfl,
  f_law_runtime := c.def_ 66 (d := d_law_runtime) rfl,
  f_law_none := c.def_ 67 (d := d_law_none) rfl,
  f_law_answer := c.def_ 68 (d := d_law_answer) rfl,
  f_law_tell := c.def_ 69 (d := d_law_tell) rfl,
  f_law_asked := c.def_ 70 (d := d_law_asked) rfl,
  f_law_load := c.def_ 71 (d := d_law_load) rfl,
  f_law_undo := c.def_ 72 (d := d_law_undo) rfl,
  f_law_changed := c.def_ 73 (d := d_law_changed) rfl,
  f_law_stands := c.def_ 74 (d := d_law_stands) rfl,
  f_law := c.def_ 75 (d := d_law) rfl }
structure Ex (w : World) (K : PySem.W.Frag) : Prop where
  fm_new : FormOk K "new" ["name"]
  fm_load : FormOk K "load" ["name", "kinds"]
  fm_drop : FormOk K "drop" ["name"]
  fm_names : FormOk K "names" []
  fm_undo : FormOk K "undo" []
  fm_ask : FormOk K "ask" ["name", "kind", "kind"]
  fm_given : FormOk K "given" ["name", "kind"]
  fm_show : FormOk K "show" ["name"]
  fm_width : FormOk K "width" ["name"]
  fm_slots : FormOk K "slots" ["name"]
  fm_groups : FormOk K "groups" ["name"]
  an_ask : PySem.W.nsIn K (ga K "ANSWERS") "ask" = some (some (.ref (ga K "told_ask")))
  an_given : PySem.W.nsIn K (ga K "ANSWERS") "given" = some (some (.ref (ga K "told_given")))
  an_show : PySem.W.nsIn K (ga K "ANSWERS") "show" = some (some (.ref (ga K "told_show")))
  an_width : PySem.W.nsIn K (ga K "ANSWERS") "width" = some (some (.ref (ga K "told_width")))
  an_slots : PySem.W.nsIn K (ga K "ANSWERS") "slots" = some (some (.ref (ga K "told_slots")))
  an_groups : PySem.W.nsIn K (ga K "ANSWERS") "groups" = some (some (.ref (ga K "told_groups")))
  ex_NoKind : ExT K "/claim/cut.py" (ga K "NoKind") (ma K (ga K "NoKind") "__init__") "NoKind.__init__" (defArgs s_NoKind_init) (defBody s_NoKind_init) (defScope s_NoKind_init)
  ex_BadKind : ExT K "/claim/cut.py" (ga K "BadKind") (ma K (ga K "BadKind") "__init__") "BadKind.__init__" (defArgs s_BadKind_init) (defBody s_BadKind_init) (defScope s_BadKind_init)
  ex_NothingDone : ExT K "/claim/cut.py" (ga K "NothingDone") (ma K (ga K "NothingDone") "__init__") "NothingDone.__init__" (defArgs s_NothingDone_init) (defBody s_NothingDone_init) (defScope s_NothingDone_init)
  ex_NoBook : ExT K "/claim/cut.py" (ga K "NoBook") (ma K (ga K "NoBook") "__init__") "NoBook.__init__" (defArgs s_NoBook_init) (defBody s_NoBook_init) (defScope s_NoBook_init)
  nb : PySem.W.findIn K (.ref (ga K "NoBook")) "name" = some none
  xf : XfC K (ga K "NoBook")
  kf : ∃ es n, KDict K w (ga K "FORMS") es n
  ka : ∃ es n, KDict K w (ga K "ANSWERS") es n
theorem ex_of {w : World} {K : PySem.W.Frag} (c : Says w K) : Ex w K := by
  have e1 : ex K = true := congrArg (fun z : Al => z.1.2) c
  have e2 : exN.map (fnE K) = exV := congrArg (fun z : Al => z.2.1) c
  have e3 : [He.dicW K (ga K "FORMS"), He.dicW K (ga K "ANSWERS")] = [some (He.keysIn w.params kForms), some (He.keysIn w.params kAns)] := congrArg (fun z : Al => z.2.2) c
  obtain ⟨t1, t2⟩ : _ ∧ _ := by simpa only [List.cons.injEq, and_true] using e3
  have x0 : ∀ (i : Nat) (x : Str) (v : FnE), exN[i]? = some x → exV[i]? = some v → fnE K x = v := fun i x v a b => by
    have z : (exN.map (fnE K))[i]? = exV[i]? := by rw [e2]
    rw [List.getElem?_map, a, b] at z
    exact Option.some.inj z
  unfold ex at e1
  obtain ⟨h0, e1⟩ := He.ba e1
  obtain ⟨h1, e1⟩ := He.ba e1
  obtain ⟨h2, e1⟩ := He.ba e1
  obtain ⟨h3, e1⟩ := He.ba e1
  obtain ⟨h4, e1⟩ := He.ba e1
  obtain ⟨h5, e1⟩ := He.ba e1
  obtain ⟨h6, e1⟩ := He.ba e1
  obtain ⟨h7, e1⟩ := He.ba e1
  obtain ⟨h8, e1⟩ := He.ba e1
  obtain ⟨h9, e1⟩ := He.ba e1
  obtain ⟨h10, e1⟩ := He.ba e1
  obtain ⟨h11, e1⟩ := He.ba e1
  obtain ⟨h12, e1⟩ := He.ba e1
  obtain ⟨h13, e1⟩ := He.ba e1
  obtain ⟨h14, e1⟩ := He.ba e1
  obtain ⟨h15, e1⟩ := He.ba e1
  obtain ⟨h16, e1⟩ := He.ba e1
  obtain ⟨h17, e1⟩ := He.ba e1
  obtain ⟨h18, e1⟩ := He.ba e1
  obtain ⟨h19, e1⟩ := He.ba e1
  obtain ⟨h20, e1⟩ := He.ba e1
  obtain ⟨n1, n2⟩ := He.ba e1
  exact ⟨formB_ok h0, formB_ok h1, formB_ok h2, formB_ok h3, formB_ok h4, formB_ok h5, formB_ok h6, formB_ok h7, formB_ok h8, formB_ok h9, formB_ok h10, of_decide_eq_true h11, of_decide_eq_true h12, of_decide_eq_true h13, of_decide_eq_true h14, of_decide_eq_true h15, of_decide_eq_true h16, excB_ok h17 (x0 0 _ _ rfl rfl), excB_ok h18 (x0 1 _ _ rfl rfl), excB_ok h19 (x0 2 _ _ rfl rfl), excB_ok h20 (x0 3 _ _ rfl rfl), He.eqO_ok n1, xfB_ok n2, He.dicW_ok t1, He.dicW_ok t2⟩
theorem says_d {w : World} {K : PySem.W.Frag} (c : Says w K) : He.SaysD fa fn K := congrArg (fun z : Al => z.1.1) c
end Lk
set_option Elab.async false
set_option linter.all false
set_option maxRecDepth 100000
set_option maxHeartbeats 0
namespace Lk
open PySem PySem.Spec PyProof.Rows L2
open He (ga ma)
def nms0 : List PySem.Str := ["_wall", "__name__", "KindError", "BadBook", "NoKind", "BadKind", "TooMany", "NothingDone", "NoLine", "NoBook", "is_integer", "is_within", "is_lot", "check_kind_of", "check_most", "MOST_KINDS", "MOST_PARENTS", "are_parents", "Book", "book_of"]
def nms1 : List PySem.Str := ["grown", "many_of", "is_one", "Groups", "entries_of", "Rows", "rows_of", "all_kinds", "width", "told", "groups_from", "first_step", "next_step", "Runtime", "FIGURES", "FEW", "is_number", "joined", "book_text", "given_line"]
def nms2 : List PySem.Str := ["LETTERS", "LONGEST", "FORMS", "is_name", "are_kinds", "fits", "words_of", "numbers_of", "told_ask", "told_given", "told_show", "told_width", "told_slots", "told_groups", "ANSWERS", "Desk", "_law_flow", "_law_draw", "_law_parents", "_law_lot"]
def nms3 : List PySem.Str := ["_law_name", "_law_joined", "_law_lots", "_law_runtime", "_law_none", "_law_answer", "_law_tell", "_law_asked", "_law_load", "_law_undo", "_law_changed", "_law_stands"]
def nms : List PySem.Str := nms0 ++ (nms1 ++ (nms2 ++ (nms3)))
abbrev R : PySem.W.OpenRow := PySem.W.OpenLaw.row PySem.Challenge.rw_latekinds_k75_whole_desk
theorem run (w : World) : HandSHeadRun.RunEq R (PySem.W.view R.prog [81]) hk ob 8000 nms w :=
  PySem.W.byRow2 "special-get-raises" (P := fun w => HandSHeadRun.RunEq R (PySem.W.view R.prog [81]) hk ob 8000 nms w) (fun w os => by kernel_rfl) (fun w os => by kernel_rfl) w
end Lk
set_option Elab.async false
set_option linter.all false
set_option maxRecDepth 100000
set_option maxHeartbeats 4000000
namespace Lk
open PySem PySem.Spec PyProof.Rows L2
open He (ga ma)
/-! ### a def that keeps its promise -/
structure DefOk (P : Program) (w : World) (K : PySem.W.Frag) (mg : Str → Option Value) (base : Heap) (CX : CXT) (k : Nat) (f : Addr) (ps : List Str) (sp : Sp) : Prop where
  ex : ∃ fd, FnOk P w K mg base CX k f fd ps sp ∧ Binds K fd ps [] ∧ PySem.W.keepIn K (.ref f) = true
theorem DefOk.mono {P : Program} {w : World} {K : PySem.W.Frag} {mg : Str → Option Value} {base : Heap} {CX : CXT} {j k : Nat} {f : Addr} {ps : List Str} {sp : Sp} (D : DefOk P w K mg base CX j f ps sp) (h : j ≤ k) : DefOk P w K mg base CX k f ps sp := by
  obtain ⟨fd, F, b, z⟩ := D.ex
  exact ⟨fd, F.mono h, b, z⟩
theorem DefOk.imp {P : Program} {w : World} {K : PySem.W.Frag} {mg : Str → Option Value} {base : Heap} {CX : CXT} {k : Nat} {f : Addr} {ps : List Str} {sp sp' : Sp} (D : DefOk P w K mg base CX k f ps sp) (h : ∀ vs H Q E, sp' vs H Q E → sp vs H Q E) : DefOk P w K mg base CX k f ps sp' := by
  obtain ⟨fd, F, b, z⟩ := D.ex
  exact ⟨fd, F.imp h, b, z⟩
/-- how the parameters bind, by the text -/
def BindsBy (x qual : Str) (st : Stmt) (ps : List Str) : Prop := ∀ (kV doc pm : Value) (an : Option Addr) (cdv ct : Value) (us : List Value), us.length = ps.length → bindArgs (PySem.W.fnOf x qual (defArgs st) (defBody st) (defScope st) .none kV doc pm an cdv ct) ⟨us, []⟩ = pure (ps.zip us)
section
variable {P : Program} {w : World} {K : PySem.W.Frag} {mg : Str → Option Value} {base : Heap}
theorem def_ok {CX : CXT} {x qual : Str} {st : Stmt} {f : Addr} {N ps : List Str} {k : Nat} {sp : Sp} (F : FnP K x qual st f) (hb : BindsBy x qual st ps) (S : FnScope N ps (defScope st)) (len : ∀ vs H Q E, sp vs H Q E → vs.length = ps.length)
    (hbody : ∀ (cdv : Value) (A : Around) (outer : List Env) (s : Shared) (H : Hp) (vs : List V) (Q : VK) (E : XK), Room k (A.deeper (envOfC qual (defScope st) s.heap.objs.size f cdv)) → sp vs H Q E →
      ∃ t, PSs (cxOf CX P w K mg base N qual (defScope st) f cdv A outer s H E) (defBody st) t ∧ t { nx := fun _ H' => Q .non H', rt := Q } (start N vs) H) : DefOk P w K mg base CX (k + 1) f ps sp := by
  obtain ⟨fd, D⟩ := F
  refine ⟨fd, D.ok S len hbody, ?_, D.kp⟩
  obtain ⟨oc, od, dV, kV, doc, pm, an, cdv, ct, osl, rfl, lk, hcd, dv, _⟩ := D.ex
  obtain rfl : dV = .none := by
    rcases dv with ⟨_, e⟩ | ⟨e, _⟩
    · exact e
    · exact absurd rfl e
  exact Binds.all fun us hl => hb kV doc pm an cdv ct us hl
/-- a def that lets no exception out -/
theorem def0 {x qual : Str} {st : Stmt} {f : Addr} {N ps : List Str} {k : Nat} {sp : Sp} (F : FnP K x qual st f) (hb : BindsBy x qual st ps) (S : FnScope N ps (defScope st)) (len : ∀ vs H Q E, sp vs H Q E → vs.length = ps.length)
    (hbody : ∀ (cdv : Value) (A : Around) (outer : List Env) (s : Shared) (H : Hp) (vs : List V) (Q : VK) (E : XK), Room k (A.deeper (envOfC qual (defScope st) s.heap.objs.size f cdv)) → sp vs H Q E →
      ∃ t, PSs (cxOf CX0 P w K mg base N qual (defScope st) f cdv A outer s H E).nox (defBody st) t ∧ t { nx := fun _ H' => Q .non H', rt := Q } (start N vs) H) : DefOk P w K mg base CX0 (k + 1) f ps sp :=
  def_ok F hb S len fun cdv A outer s H vs Q E hr h => by
    obtain ⟨t, a, b⟩ := hbody cdv A outer s H vs Q E hr h
    exact ⟨t, a.nox, b⟩
end
/-! ### calls -/
section
variable {X : Cx} {CX : CXT} {k : Nat} {f C : Addr} {ps : List Str} {sp : Sp} {E : XK} {x m : Str} {p pos apos : Pos} {e o : Expr} {es : List Expr} {ta : TE} {t : TA}
abbrev DefX (X : Cx) (CX : CXT) (k : Nat) (f : Addr) (ps : List Str) (sp : Sp) : Prop := DefOk X.prog X.w X.K X.mg X.base CX k f ps sp
theorem nil_app (sp : Sp) (E : XK) (t : TA) : tCall sp [] E t = fun σ H Q => t σ H fun vs H1 => sp vs H1 Q E := by
  funext σ H Q
  show t σ H (fun vs H1 => sp (vs ++ []) H1 Q E) = _
  simp only [List.append_nil]
/-- f(e, ..) -/
def cCall (sp : Sp) (E : XK) (t : TA) : TE := fun σ H Q => t σ H fun vs H1 => sp vs H1 Q E
theorem pe_cal (D : DefX X CX k f ps sp) (hr : Room k X.A) (hg : Gl X x) (hm : X.mg x = some (.ref f)) (hx : Passes CX X E) (ha : PA X (e :: es) t) (hdb : (x == ("__debug__" : Str)) = false := by decide)
    (he : starEach (e :: es) X.env = (false, eval e X.env) :: starEach es X.env := by rfl) (hpl : (backTo pos (starEach es X.env)).any (·.1) = false := by rfl) : PE X (.Call (.Name x p) (e :: es) [] pos) (cCall sp E t) := by
  obtain ⟨fd, F, b, z⟩ := D.ex
  have q := pe_call (p := p) (pos := pos) F hr hg hm z b .nil hx ha hdb he hpl
  rw [nil_app] at q
  exact q
theorem pe_cal0 (D : DefX X CX k f ps sp) (hr : Room k X.A) (hg : Gl X x) (hm : X.mg x = some (.ref f)) (hx : Passes CX X E) (hdb : (x == ("__debug__" : Str)) = false := by decide) : PE X (.Call (.Name x p) [] [] pos) (fun σ H Q => sp [] H Q E) := by
  obtain ⟨fd, F, b, z⟩ := D.ex
  exact pe_call0 (p := p) (pos := pos) F hr hg hm z b .nil hx hdb
/-- o.m(e, ..) -/
def cMeth (C : Addr) (m : Str) (sp : Sp) (E : XK) (ta : TE) (t : TA) : TE := fun σ H Q => ta σ H fun x H1 => ∃ a dx fs, x = .ref a ∧ H1 a = some (.ins C dx fs) ∧ fs.lookup m = none ∧ t σ H1 fun vs H2 => sp (x :: vs) H2 Q E
theorem nil_appM (C : Addr) (m : Str) (sp : Sp) (E : XK) (ta : TE) (t : TA) : tMeth C m sp [] E ta t = cMeth C m sp E ta t := by
  funext σ H Q
  unfold tMeth cMeth
  simp only [List.append_nil]
theorem pe_met {pl : Sem Bool} (he : PE X o ta) (c : Cls X.K C) (hm : Meth X.K C m f) (D : DefX X CX k f ps sp) (hr : Room k X.A) (hx : Passes CX X E) (ha : PA X (e :: es) t)
    (hst : starEach (e :: es) X.env = (false, eval e X.env) :: starEach es X.env := by rfl) (hpl : (backTo pos (starEach es X.env)).any (·.1) = false := by rfl)
    (ht : eval (.Call (.Attribute o m apos) (e :: es) [] pos) X.env = (do
      let ov ← eval o X.env
      standAt apos.atName
      let (f, first) ← holding [ov] (getMethod ov m pl)
      callWith pos f first (backTo pos (starEach (e :: es) X.env)) (backToKw pos (keywordEach [] X.env))) := by rfl) :
    PE X (.Call (.Attribute o m apos) (e :: es) [] pos) (cMeth C m sp E ta t) := by
  obtain ⟨fd, F, b, z⟩ := D.ex
  have q := pe_meth he c hm F hr b .nil hx ha hst hpl ht
  rw [nil_appM] at q
  exact q
theorem pe_met0 {pl : Sem Bool} (he : PE X o ta) (c : Cls X.K C) (hm : Meth X.K C m f) (D : DefX X CX k f ps sp) (hr : Room k X.A) (hx : Passes CX X E)
    (ht : eval (.Call (.Attribute o m apos) [] [] pos) X.env = (do
      let ov ← eval o X.env
      standAt apos.atName
      let (f, first) ← holding [ov] (getMethod ov m pl)
      callWith pos f first (backTo pos (starEach [] X.env)) (backToKw pos (keywordEach [] X.env))) := by rfl) :
    PE X (.Call (.Attribute o m apos) [] [] pos) (cMeth C m sp E ta tNil) := by
  obtain ⟨fd, F, b, z⟩ := D.ex
  have q := pe_meth0 he c hm F hr b .nil hx ht
  rw [nil_appM] at q
  exact q
/-- C(e, ..) -/
def cMake (C : Addr) (sp : Sp) (E : XK) (t : TA) : TE := fun σ H Q => t σ H fun vs H1 => ∀ x dx, H1 x = none → H1 dx = none → dx ≠ x →
  sp (.ref x :: vs) (upd (upd H1 dx (.own x)) x (.ins C dx [])) (fun v H2 => v = .non ∧ Q (.ref x) H2) E
theorem nil_appK (C : Addr) (sp : Sp) (E : XK) (t : TA) : tMake C sp [] E t = cMake C sp E t := by
  funext σ H Q
  unfold tMake cMake
  simp only [List.append_nil]
theorem pe_mak (M : Mk X.K C f) (D : DefX X CX k f ps sp) (hr : Room (k + 1) X.A) (hg : Gl X x) (hm : X.mg x = some (.ref C)) (hx : Passes CX X E) (ha : PA X (e :: es) t) (hdb : (x == ("__debug__" : Str)) = false := by decide)
    (he : starEach (e :: es) X.env = (false, eval e X.env) :: starEach es X.env := by rfl) (hpl : (backTo pos (starEach es X.env)).any (·.1) = false := by rfl) : PE X (.Call (.Name x p) (e :: es) [] pos) (cMake C sp E t) := by
  obtain ⟨fd, F, b, z⟩ := D.ex
  have q := pe_make (p := p) (pos := pos) M F hr hg hm b .nil hx ha hdb he hpl
  rw [nil_appK] at q
  exact q
theorem pe_mak0 (M : Mk X.K C f) (D : DefX X CX k f ps sp) (hr : Room (k + 1) X.A) (hg : Gl X x) (hm : X.mg x = some (.ref C)) (hx : Passes CX X E) (hdb : (x == ("__debug__" : Str)) = false := by decide) : PE X (.Call (.Name x p) [] [] pos) (cMake C sp E tNil) := by
  obtain ⟨fd, F, b, z⟩ := D.ex
  have q := pe_make0 (p := p) (pos := pos) M F hr hg hm b .nil hx hdb
  rw [nil_appK] at q
  exact q
/-- answer(e, ..) of a local name that holds the def at f -/
def cCallL (i : Nat) (f : Addr) (sp : Sp) (E : XK) (t : TA) : TE := fun σ H Q => σ[i]? = some (some (.ref f)) ∧ t σ H fun vs H1 => sp vs H1 Q E
end
end Lk
set_option Elab.async false
set_option linter.all false
set_option maxRecDepth 100000
set_option maxHeartbeats 4000000
namespace Lk
open PySem PySem.Spec PyProof.Rows L2
abbrev N_is_integer : List Str := ["thing"]
theorem sc_is_integer : FnScope N_is_integer ["thing"] (defScope s_is_integer) := ⟨rfl, rfl, rfl, by decide +kernel, rfl, by decide +kernel, by decide +kernel⟩
theorem bd_is_integer : BindsBy "is_integer" "is_integer" s_is_integer ["thing"] := fun _ _ _ _ _ _ us hl => match us, hl with | [_], _ => rfl
abbrev N_is_within : List Str := ["thing", "least", "most"]
theorem sc_is_within : FnScope N_is_within ["thing", "least", "most"] (defScope s_is_within) := ⟨rfl, rfl, rfl, by decide +kernel, rfl, by decide +kernel, by decide +kernel⟩
theorem bd_is_within : BindsBy "is_within" "is_within" s_is_within ["thing", "least", "most"] := fun _ _ _ _ _ _ us hl => match us, hl with | [_, _, _], _ => rfl
abbrev N_is_lot : List Str := ["thing", "many", "last", "item"]
theorem sc_is_lot : FnScope N_is_lot ["thing", "many"] (defScope s_is_lot) := ⟨rfl, rfl, rfl, by decide +kernel, rfl, by decide +kernel, by decide +kernel⟩
theorem bd_is_lot : BindsBy "is_lot" "is_lot" s_is_lot ["thing", "many"] := fun _ _ _ _ _ _ us hl => match us, hl with | [_, _], _ => rfl
abbrev N_check_kind_of : List Str := ["thing", "many"]
theorem sc_check_kind_of : FnScope N_check_kind_of ["thing", "many"] (defScope s_check_kind_of) := ⟨rfl, rfl, rfl, by decide +kernel, rfl, by decide +kernel, by decide +kernel⟩
theorem bd_check_kind_of : BindsBy "check_kind_of" "check_kind_of" s_check_kind_of ["thing", "many"] := fun _ _ _ _ _ _ us hl => match us, hl with | [_, _], _ => rfl
abbrev N_check_most : List Str := ["number", "most"]
theorem sc_check_most : FnScope N_check_most ["number", "most"] (defScope s_check_most) := ⟨rfl, rfl, rfl, by decide +kernel, rfl, by decide +kernel, by decide +kernel⟩
theorem bd_check_most : BindsBy "check_most" "check_most" s_check_most ["number", "most"] := fun _ _ _ _ _ _ us hl => match us, hl with | [_, _], _ => rfl
abbrev N_are_parents : List Str := ["thing", "number"]
theorem sc_are_parents : FnScope N_are_parents ["thing", "number"] (defScope s_are_parents) := ⟨rfl, rfl, rfl, by decide +kernel, rfl, by decide +kernel, by decide +kernel⟩
theorem bd_are_parents : BindsBy "are_parents" "are_parents" s_are_parents ["thing", "number"] := fun _ _ _ _ _ _ us hl => match us, hl with | [_, _], _ => rfl
abbrev N_Book_init : List Str := ["self", "parents", "number", "item"]
theorem sc_Book_init : FnScope N_Book_init ["self", "parents"] (defScope s_Book_init) := ⟨rfl, rfl, rfl, by decide +kernel, rfl, by decide +kernel, by decide +kernel⟩
theorem bd_Book_init : BindsBy "__init__" "Book.__init__" s_Book_init ["self", "parents"] := fun _ _ _ _ _ _ us hl => match us, hl with | [_, _], _ => rfl
abbrev N_Book_fill : List Str := ["self", "parents", "number", "item", "found", "parent"]
theorem sc_Book_fill : FnScope N_Book_fill ["self", "parents"] (defScope s_Book_fill) := ⟨rfl, rfl, rfl, by decide +kernel, rfl, by decide +kernel, by decide +kernel⟩
theorem bd_Book_fill : BindsBy "fill" "Book.fill" s_Book_fill ["self", "parents"] := fun _ _ _ _ _ _ us hl => match us, hl with | [_, _], _ => rfl
abbrev N_book_of : List Str := ["parents", "found"]
theorem sc_book_of : FnScope N_book_of ["parents"] (defScope s_book_of) := ⟨rfl, rfl, rfl, by decide +kernel, rfl, by decide +kernel, by decide +kernel⟩
theorem bd_book_of : BindsBy "book_of" "book_of" s_book_of ["parents"] := fun _ _ _ _ _ _ us hl => match us, hl with | [_], _ => rfl
abbrev N_grown : List Str := ["book", "parents", "found", "bits", "parent"]
theorem sc_grown : FnScope N_grown ["book", "parents"] (defScope s_grown) := ⟨rfl, rfl, rfl, by decide +kernel, rfl, by decide +kernel, by decide +kernel⟩
theorem bd_grown : BindsBy "grown" "grown" s_grown ["book", "parents"] := fun _ _ _ _ _ _ us hl => match us, hl with | [_, _], _ => rfl
abbrev N_many_of : List Str := ["book"]
theorem sc_many_of : FnScope N_many_of ["book"] (defScope s_many_of) := ⟨rfl, rfl, rfl, by decide +kernel, rfl, by decide +kernel, by decide +kernel⟩
theorem bd_many_of : BindsBy "many_of" "many_of" s_many_of ["book"] := fun _ _ _ _ _ _ us hl => match us, hl with | [_], _ => rfl
abbrev N_is_one : List Str := ["book", "x", "p"]
theorem sc_is_one : FnScope N_is_one ["book", "x", "p"] (defScope s_is_one) := ⟨rfl, rfl, rfl, by decide +kernel, rfl, by decide +kernel, by decide +kernel⟩
theorem bd_is_one : BindsBy "is_one" "is_one" s_is_one ["book", "x", "p"] := fun _ _ _ _ _ _ us hl => match us, hl with | [_, _, _], _ => rfl
abbrev N_Groups_init : List Str := ["self"]
theorem sc_Groups_init : FnScope N_Groups_init ["self"] (defScope s_Groups_init) := ⟨rfl, rfl, rfl, by decide +kernel, rfl, by decide +kernel, by decide +kernel⟩
theorem bd_Groups_init : BindsBy "__init__" "Groups.__init__" s_Groups_init ["self"] := fun _ _ _ _ _ _ us hl => match us, hl with | [_], _ => rfl
abbrev N_Groups_fitting : List Str := ["self", "book", "lot", "x", "some", "slot"]
theorem sc_Groups_fitting : FnScope N_Groups_fitting ["self", "book", "lot", "x"] (defScope s_Groups_fitting) := ⟨rfl, rfl, rfl, by decide +kernel, rfl, by decide +kernel, by decide +kernel⟩
theorem bd_Groups_fitting : BindsBy "fitting" "Groups.fitting" s_Groups_fitting ["self", "book", "lot", "x"] := fun _ _ _ _ _ _ us hl => match us, hl with | [_, _, _, _], _ => rfl
abbrev N_Groups_taken : List Str := ["self", "book", "x", "number", "lot", "slot"]
theorem sc_Groups_taken : FnScope N_Groups_taken ["self", "book", "x"] (defScope s_Groups_taken) := ⟨rfl, rfl, rfl, by decide +kernel, rfl, by decide +kernel, by decide +kernel⟩
theorem bd_Groups_taken : BindsBy "taken" "Groups.taken" s_Groups_taken ["self", "book", "x"] := fun _ _ _ _ _ _ us hl => match us, hl with | [_, _, _], _ => rfl
abbrev N_Groups_put : List Str := ["self", "book", "x", "number", "slot", "less", "one"]
theorem sc_Groups_put : FnScope N_Groups_put ["self", "book", "x"] (defScope s_Groups_put) := ⟨rfl, rfl, rfl, by decide +kernel, rfl, by decide +kernel, by decide +kernel⟩
theorem bd_Groups_put : BindsBy "put" "Groups.put" s_Groups_put ["self", "book", "x"] := fun _ _ _ _ _ _ us hl => match us, hl with | [_, _, _], _ => rfl
abbrev N_Groups_told : List Str := ["self", "most", "number", "lot"]
theorem sc_Groups_told : FnScope N_Groups_told ["self"] (defScope s_Groups_told) := ⟨rfl, rfl, rfl, by decide +kernel, rfl, by decide +kernel, by decide +kernel⟩
theorem bd_Groups_told : BindsBy "told" "Groups.told" s_Groups_told ["self"] := fun _ _ _ _ _ _ us hl => match us, hl with | [_], _ => rfl
abbrev N_entries_of : List Str := ["book", "held", "x", "row", "kind"]
theorem sc_entries_of : FnScope N_entries_of ["book", "held", "x"] (defScope s_entries_of) := ⟨rfl, rfl, rfl, by decide +kernel, rfl, by decide +kernel, by decide +kernel⟩
theorem bd_entries_of : BindsBy "entries_of" "entries_of" s_entries_of ["book", "held", "x"] := fun _ _ _ _ _ _ us hl => match us, hl with | [_, _, _], _ => rfl
abbrev N_Rows_init : List Str := ["self", "book"]
theorem sc_Rows_init : FnScope N_Rows_init ["self", "book"] (defScope s_Rows_init) := ⟨rfl, rfl, rfl, by decide +kernel, rfl, by decide +kernel, by decide +kernel⟩
theorem bd_Rows_init : BindsBy "__init__" "Rows.__init__" s_Rows_init ["self", "book"] := fun _ _ _ _ _ _ us hl => match us, hl with | [_, _], _ => rfl
abbrev N_Rows_put : List Str := ["self", "x", "came", "waiting", "at", "here", "p"]
theorem sc_Rows_put : FnScope N_Rows_put ["self", "x"] (defScope s_Rows_put) := ⟨rfl, rfl, rfl, by decide +kernel, rfl, by decide +kernel, by decide +kernel⟩
theorem bd_Rows_put : BindsBy "put" "Rows.put" s_Rows_put ["self", "x"] := fun _ _ _ _ _ _ us hl => match us, hl with | [_, _], _ => rfl
abbrev N_Rows_forebears_here : List Str := ["self", "x", "p"]
theorem sc_Rows_forebears_here : FnScope N_Rows_forebears_here ["self", "x"] (defScope s_Rows_forebears_here) := ⟨rfl, rfl, rfl, by decide +kernel, rfl, by decide +kernel, by decide +kernel⟩
theorem bd_Rows_forebears_here : BindsBy "forebears_here" "Rows.forebears_here" s_Rows_forebears_here ["self", "x"] := fun _ _ _ _ _ _ us hl => match us, hl with | [_, _], _ => rfl
abbrev N_Rows_join : List Str := ["self", "p", "came", "x", "here", "old"]
theorem sc_Rows_join : FnScope N_Rows_join ["self", "p", "came", "x"] (defScope s_Rows_join) := ⟨rfl, rfl, rfl, by decide +kernel, rfl, by decide +kernel, by decide +kernel⟩
theorem bd_Rows_join : BindsBy "join" "Rows.join" s_Rows_join ["self", "p", "came", "x"] := fun _ _ _ _ _ _ us hl => match us, hl with | [_, _, _, _], _ => rfl
abbrev N_Rows_many : List Str := ["self"]
theorem sc_Rows_many : FnScope N_Rows_many ["self"] (defScope s_Rows_many) := ⟨rfl, rfl, rfl, by decide +kernel, rfl, by decide +kernel, by decide +kernel⟩
theorem bd_Rows_many : BindsBy "many" "Rows.many" s_Rows_many ["self"] := fun _ _ _ _ _ _ us hl => match us, hl with | [_], _ => rfl
abbrev N_rows_of : List Str := ["book", "kinds", "found", "kind"]
theorem sc_rows_of : FnScope N_rows_of ["book", "kinds"] (defScope s_rows_of) := ⟨rfl, rfl, rfl, by decide +kernel, rfl, by decide +kernel, by decide +kernel⟩
theorem bd_rows_of : BindsBy "rows_of" "rows_of" s_rows_of ["book", "kinds"] := fun _ _ _ _ _ _ us hl => match us, hl with | [_, _], _ => rfl
abbrev N_all_kinds : List Str := ["book"]
theorem sc_all_kinds : FnScope N_all_kinds ["book"] (defScope s_all_kinds) := ⟨rfl, rfl, rfl, by decide +kernel, rfl, by decide +kernel, by decide +kernel⟩
theorem bd_all_kinds : BindsBy "all_kinds" "all_kinds" s_all_kinds ["book"] := fun _ _ _ _ _ _ us hl => match us, hl with | [_], _ => rfl
abbrev N_width : List Str := ["book"]
theorem sc_width : FnScope N_width ["book"] (defScope s_width) := ⟨rfl, rfl, rfl, by decide +kernel, rfl, by decide +kernel, by decide +kernel⟩
theorem bd_width : BindsBy "width" "width" s_width ["book"] := fun _ _ _ _ _ _ us hl => match us, hl with | [_], _ => rfl
abbrev N_told : List Str := ["scheme", "x", "p", "slot", "number", "row", "entries"]
theorem sc_told : FnScope N_told ["scheme", "x", "p"] (defScope s_told) := ⟨rfl, rfl, rfl, by decide +kernel, rfl, by decide +kernel, by decide +kernel⟩
theorem bd_told : BindsBy "told" "told" s_told ["scheme", "x", "p"] := fun _ _ _ _ _ _ us hl => match us, hl with | [_, _, _], _ => rfl
abbrev N_groups_from : List Str := ["lots", "held", "found", "lot", "row"]
theorem sc_groups_from : FnScope N_groups_from ["lots", "held"] (defScope s_groups_from) := ⟨rfl, rfl, rfl, by decide +kernel, rfl, by decide +kernel, by decide +kernel⟩
theorem bd_groups_from : BindsBy "groups_from" "groups_from" s_groups_from ["lots", "held"] := fun _ _ _ _ _ _ us hl => match us, hl with | [_, _], _ => rfl
abbrev N_first_step : List Str := []
theorem sc_first_step : FnScope N_first_step [] (defScope s_first_step) := ⟨rfl, rfl, rfl, by decide +kernel, rfl, by decide +kernel, by decide +kernel⟩
theorem bd_first_step : BindsBy "first_step" "first_step" s_first_step [] := fun _ _ _ _ _ _ us hl => match us, hl with | [], _ => rfl
abbrev N_next_step : List Str := ["step", "parents", "sheet", "triples", "lots", "held", "x", "sheet_now", "groups_now", "slot", "triple", "lots_now", "held_now", "lot", "row"]
theorem sc_next_step : FnScope N_next_step ["step", "parents"] (defScope s_next_step) := ⟨rfl, rfl, rfl, by decide +kernel, rfl, by decide +kernel, by decide +kernel⟩
theorem bd_next_step : BindsBy "next_step" "next_step" s_next_step ["step", "parents"] := fun _ _ _ _ _ _ us hl => match us, hl with | [_, _], _ => rfl
abbrev N_Runtime_init : List Str := ["self"]
theorem sc_Runtime_init : FnScope N_Runtime_init ["self"] (defScope s_Runtime_init) := ⟨rfl, rfl, rfl, by decide +kernel, rfl, by decide +kernel, by decide +kernel⟩
theorem bd_Runtime_init : BindsBy "__init__" "Runtime.__init__" s_Runtime_init ["self"] := fun _ _ _ _ _ _ us hl => match us, hl with | [_], _ => rfl
abbrev N_Runtime_load : List Str := ["self", "parents", "number"]
theorem sc_Runtime_load : FnScope N_Runtime_load ["self", "parents"] (defScope s_Runtime_load) := ⟨rfl, rfl, rfl, by decide +kernel, rfl, by decide +kernel, by decide +kernel⟩
theorem bd_Runtime_load : BindsBy "load" "Runtime.load" s_Runtime_load ["self", "parents"] := fun _ _ _ _ _ _ us hl => match us, hl with | [_, _], _ => rfl
abbrev N_Runtime_ask : List Str := ["self", "x", "p"]
theorem sc_Runtime_ask : FnScope N_Runtime_ask ["self", "x", "p"] (defScope s_Runtime_ask) := ⟨rfl, rfl, rfl, by decide +kernel, rfl, by decide +kernel, by decide +kernel⟩
theorem bd_Runtime_ask : BindsBy "ask" "Runtime.ask" s_Runtime_ask ["self", "x", "p"] := fun _ _ _ _ _ _ us hl => match us, hl with | [_, _, _], _ => rfl
abbrev N_Runtime_given : List Str := ["self", "x"]
theorem sc_Runtime_given : FnScope N_Runtime_given ["self", "x"] (defScope s_Runtime_given) := ⟨rfl, rfl, rfl, by decide +kernel, rfl, by decide +kernel, by decide +kernel⟩
theorem bd_Runtime_given : BindsBy "given" "Runtime.given" s_Runtime_given ["self", "x"] := fun _ _ _ _ _ _ us hl => match us, hl with | [_, _], _ => rfl
abbrev N_Runtime_book : List Str := ["self"]
theorem sc_Runtime_book : FnScope N_Runtime_book ["self"] (defScope s_Runtime_book) := ⟨rfl, rfl, rfl, by decide +kernel, rfl, by decide +kernel, by decide +kernel⟩
theorem bd_Runtime_book : BindsBy "book" "Runtime.book" s_Runtime_book ["self"] := fun _ _ _ _ _ _ us hl => match us, hl with | [_], _ => rfl
abbrev N_Runtime_groups : List Str := ["self"]
theorem sc_Runtime_groups : FnScope N_Runtime_groups ["self"] (defScope s_Runtime_groups) := ⟨rfl, rfl, rfl, by decide +kernel, rfl, by decide +kernel, by decide +kernel⟩
theorem bd_Runtime_groups : BindsBy "groups" "Runtime.groups" s_Runtime_groups ["self"] := fun _ _ _ _ _ _ us hl => match us, hl with | [_], _ => rfl
abbrev N_Runtime_many : List Str := ["self"]
theorem sc_Runtime_many : FnScope N_Runtime_many ["self"] (defScope s_Runtime_many) := ⟨rfl, rfl, rfl, by decide +kernel, rfl, by decide +kernel, by decide +kernel⟩
theorem bd_Runtime_many : BindsBy "many" "Runtime.many" s_Runtime_many ["self"] := fun _ _ _ _ _ _ us hl => match us, hl with | [_], _ => rfl
abbrev N_Runtime_copy : List Str := ["self", "found"]
theorem sc_Runtime_copy : FnScope N_Runtime_copy ["self"] (defScope s_Runtime_copy) := ⟨rfl, rfl, rfl, by decide +kernel, rfl, by decide +kernel, by decide +kernel⟩
theorem bd_Runtime_copy : BindsBy "copy" "Runtime.copy" s_Runtime_copy ["self"] := fun _ _ _ _ _ _ us hl => match us, hl with | [_], _ => rfl
abbrev N_is_number : List Str := ["word", "most", "sign"]
theorem sc_is_number : FnScope N_is_number ["word", "most"] (defScope s_is_number) := ⟨rfl, rfl, rfl, by decide +kernel, rfl, by decide +kernel, by decide +kernel⟩
theorem bd_is_number : BindsBy "is_number" "is_number" s_is_number ["word", "most"] := fun _ _ _ _ _ _ us hl => match us, hl with | [_, _], _ => rfl
abbrev N_joined : List Str := ["numbers", "between", "number"]
theorem sc_joined : FnScope N_joined ["numbers", "between"] (defScope s_joined) := ⟨rfl, rfl, rfl, by decide +kernel, rfl, by decide +kernel, by decide +kernel⟩
theorem bd_joined : BindsBy "joined" "joined" s_joined ["numbers", "between"] := fun _ _ _ _ _ _ us hl => match us, hl with | [_, _], _ => rfl
abbrev N_book_text : List Str := ["book", "parents"]
theorem sc_book_text : FnScope N_book_text ["book"] (defScope s_book_text) := ⟨rfl, rfl, rfl, by decide +kernel, rfl, by decide +kernel, by decide +kernel⟩
theorem bd_book_text : BindsBy "book_text" "book_text" s_book_text ["book"] := fun _ _ _ _ _ _ us hl => match us, hl with | [_], _ => rfl
abbrev N_given_line : List Str := ["triple", "slot", "number", "row"]
theorem sc_given_line : FnScope N_given_line ["triple"] (defScope s_given_line) := ⟨rfl, rfl, rfl, by decide +kernel, rfl, by decide +kernel, by decide +kernel⟩
theorem bd_given_line : BindsBy "given_line" "given_line" s_given_line ["triple"] := fun _ _ _ _ _ _ us hl => match us, hl with | [_], _ => rfl
abbrev N_is_name : List Str := ["word", "sign"]
theorem sc_is_name : FnScope N_is_name ["word"] (defScope s_is_name) := ⟨rfl, rfl, rfl, by decide +kernel, rfl, by decide +kernel, by decide +kernel⟩
theorem bd_is_name : BindsBy "is_name" "is_name" s_is_name ["word"] := fun _ _ _ _ _ _ us hl => match us, hl with | [_], _ => rfl
abbrev N_are_kinds : List Str := ["word", "part"]
theorem sc_are_kinds : FnScope N_are_kinds ["word"] (defScope s_are_kinds) := ⟨rfl, rfl, rfl, by decide +kernel, rfl, by decide +kernel, by decide +kernel⟩
theorem bd_are_kinds : BindsBy "are_kinds" "are_kinds" s_are_kinds ["word"] := fun _ _ _ _ _ _ us hl => match us, hl with | [_], _ => rfl
abbrev N_fits : List Str := ["part", "word"]
theorem sc_fits : FnScope N_fits ["part", "word"] (defScope s_fits) := ⟨rfl, rfl, rfl, by decide +kernel, rfl, by decide +kernel, by decide +kernel⟩
theorem bd_fits : BindsBy "fits" "fits" s_fits ["part", "word"] := fun _ _ _ _ _ _ us hl => match us, hl with | [_, _], _ => rfl
abbrev N_words_of : List Str := ["line", "words", "parts", "part", "word"]
theorem sc_words_of : FnScope N_words_of ["line"] (defScope s_words_of) := ⟨rfl, rfl, rfl, by decide +kernel, rfl, by decide +kernel, by decide +kernel⟩
theorem bd_words_of : BindsBy "words_of" "words_of" s_words_of ["line"] := fun _ _ _ _ _ _ us hl => match us, hl with | [_], _ => rfl
abbrev N_numbers_of : List Str := ["word", "part"]
theorem sc_numbers_of : FnScope N_numbers_of ["word"] (defScope s_numbers_of) := ⟨rfl, rfl, rfl, by decide +kernel, rfl, by decide +kernel, by decide +kernel⟩
theorem bd_numbers_of : BindsBy "numbers_of" "numbers_of" s_numbers_of ["word"] := fun _ _ _ _ _ _ us hl => match us, hl with | [_], _ => rfl
abbrev N_told_ask : List Str := ["runtime", "words"]
theorem sc_told_ask : FnScope N_told_ask ["runtime", "words"] (defScope s_told_ask) := ⟨rfl, rfl, rfl, by decide +kernel, rfl, by decide +kernel, by decide +kernel⟩
theorem bd_told_ask : BindsBy "told_ask" "told_ask" s_told_ask ["runtime", "words"] := fun _ _ _ _ _ _ us hl => match us, hl with | [_, _], _ => rfl
abbrev N_told_given : List Str := ["runtime", "words"]
theorem sc_told_given : FnScope N_told_given ["runtime", "words"] (defScope s_told_given) := ⟨rfl, rfl, rfl, by decide +kernel, rfl, by decide +kernel, by decide +kernel⟩
theorem bd_told_given : BindsBy "told_given" "told_given" s_told_given ["runtime", "words"] := fun _ _ _ _ _ _ us hl => match us, hl with | [_, _], _ => rfl
abbrev N_told_show : List Str := ["runtime", "words"]
theorem sc_told_show : FnScope N_told_show ["runtime", "words"] (defScope s_told_show) := ⟨rfl, rfl, rfl, by decide +kernel, rfl, by decide +kernel, by decide +kernel⟩
theorem bd_told_show : BindsBy "told_show" "told_show" s_told_show ["runtime", "words"] := fun _ _ _ _ _ _ us hl => match us, hl with | [_, _], _ => rfl
abbrev N_told_width : List Str := ["runtime", "words"]
theorem sc_told_width : FnScope N_told_width ["runtime", "words"] (defScope s_told_width) := ⟨rfl, rfl, rfl, by decide +kernel, rfl, by decide +kernel, by decide +kernel⟩
theorem bd_told_width : BindsBy "told_width" "told_width" s_told_width ["runtime", "words"] := fun _ _ _ _ _ _ us hl => match us, hl with | [_, _], _ => rfl
abbrev N_told_slots : List Str := ["runtime", "words", "x"]
theorem sc_told_slots : FnScope N_told_slots ["runtime", "words"] (defScope s_told_slots) := ⟨rfl, rfl, rfl, by decide +kernel, rfl, by decide +kernel, by decide +kernel⟩
theorem bd_told_slots : BindsBy "told_slots" "told_slots" s_told_slots ["runtime", "words"] := fun _ _ _ _ _ _ us hl => match us, hl with | [_, _], _ => rfl
abbrev N_told_groups : List Str := ["runtime", "words", "lots", "lot"]
theorem sc_told_groups : FnScope N_told_groups ["runtime", "words"] (defScope s_told_groups) := ⟨rfl, rfl, rfl, by decide +kernel, rfl, by decide +kernel, by decide +kernel⟩
theorem bd_told_groups : BindsBy "told_groups" "told_groups" s_told_groups ["runtime", "words"] := fun _ _ _ _ _ _ us hl => match us, hl with | [_, _], _ => rfl
abbrev N_Desk_init : List Str := ["self"]
theorem sc_Desk_init : FnScope N_Desk_init ["self"] (defScope s_Desk_init) := ⟨rfl, rfl, rfl, by decide +kernel, rfl, by decide +kernel, by decide +kernel⟩
theorem bd_Desk_init : BindsBy "__init__" "Desk.__init__" s_Desk_init ["self"] := fun _ _ _ _ _ _ us hl => match us, hl with | [_], _ => rfl
abbrev N_Desk_tell : List Str := ["self", "line", "words", "deed", "table", "runtime", "number", "answer"]
theorem sc_Desk_tell : FnScope N_Desk_tell ["self", "line"] (defScope s_Desk_tell) := ⟨rfl, rfl, rfl, by decide +kernel, rfl, by decide +kernel, by decide +kernel⟩
theorem bd_Desk_tell : BindsBy "tell" "Desk.tell" s_Desk_tell ["self", "line"] := fun _ _ _ _ _ _ us hl => match us, hl with | [_, _], _ => rfl
abbrev N_Desk_done : List Str := ["self", "table", "answer"]
theorem sc_Desk_done : FnScope N_Desk_done ["self", "table", "answer"] (defScope s_Desk_done) := ⟨rfl, rfl, rfl, by decide +kernel, rfl, by decide +kernel, by decide +kernel⟩
theorem bd_Desk_done : BindsBy "done" "Desk.done" s_Desk_done ["self", "table", "answer"] := fun _ _ _ _ _ _ us hl => match us, hl with | [_, _, _], _ => rfl
abbrev N_Desk_all_names : List Str := ["self"]
theorem sc_Desk_all_names : FnScope N_Desk_all_names ["self"] (defScope s_Desk_all_names) := ⟨rfl, rfl, rfl, by decide +kernel, rfl, by decide +kernel, by decide +kernel⟩
theorem bd_Desk_all_names : BindsBy "all_names" "Desk.all_names" s_Desk_all_names ["self"] := fun _ _ _ _ _ _ us hl => match us, hl with | [_], _ => rfl
abbrev N_Desk_undo : List Str := ["self"]
theorem sc_Desk_undo : FnScope N_Desk_undo ["self"] (defScope s_Desk_undo) := ⟨rfl, rfl, rfl, by decide +kernel, rfl, by decide +kernel, by decide +kernel⟩
theorem bd_Desk_undo : BindsBy "undo" "Desk.undo" s_Desk_undo ["self"] := fun _ _ _ _ _ _ us hl => match us, hl with | [_], _ => rfl
abbrev N_Desk_undoable : List Str := ["self"]
theorem sc_Desk_undoable : FnScope N_Desk_undoable ["self"] (defScope s_Desk_undoable) := ⟨rfl, rfl, rfl, by decide +kernel, rfl, by decide +kernel, by decide +kernel⟩
theorem bd_Desk_undoable : BindsBy "undoable" "Desk.undoable" s_Desk_undoable ["self"] := fun _ _ _ _ _ _ us hl => match us, hl with | [_], _ => rfl
abbrev N_law_flow : List Str := ["_law_script"]
theorem sc_law_flow : FnScope N_law_flow ["_law_script"] (defScope s_law_flow) := ⟨rfl, rfl, rfl, by decide +kernel, rfl, by decide +kernel, by decide +kernel⟩
theorem bd_law_flow : BindsBy "_law_flow" "_law_flow" s_law_flow ["_law_script"] := fun _ _ _ _ _ _ us hl => match us, hl with | [_], _ => rfl
abbrev N_law_draw : List Str := ["_law_flow_here", "_law_many", "_law_cell", "_law_drawn", "_law_number"]
theorem sc_law_draw : FnScope N_law_draw ["_law_flow_here", "_law_many"] (defScope s_law_draw) := ⟨rfl, rfl, rfl, by decide +kernel, rfl, by decide +kernel, by decide +kernel⟩
theorem bd_law_draw : BindsBy "_law_draw" "_law_draw" s_law_draw ["_law_flow_here", "_law_many"] := fun _ _ _ _ _ _ us hl => match us, hl with | [_, _], _ => rfl
abbrev N_law_parents : List Str := ["_law_flow_here", "_law_many", "_law_shape", "_law_span", "_law_low", "_law_wanted", "_law_found", "_law_turn", "_law_parent"]
theorem sc_law_parents : FnScope N_law_parents ["_law_flow_here", "_law_many", "_law_shape"] (defScope s_law_parents) := ⟨rfl, rfl, rfl, by decide +kernel, rfl, by decide +kernel, by decide +kernel⟩
theorem bd_law_parents : BindsBy "_law_parents" "_law_parents" s_law_parents ["_law_flow_here", "_law_many", "_law_shape"] := fun _ _ _ _ _ _ us hl => match us, hl with | [_, _, _], _ => rfl
abbrev N_law_lot : List Str := ["_law_lots_here", "_law_parents_here", "_law_found", "_law_parent", "_law_kind"]
theorem sc_law_lot : FnScope N_law_lot ["_law_lots_here", "_law_parents_here"] (defScope s_law_lot) := ⟨rfl, rfl, rfl, by decide +kernel, rfl, by decide +kernel, by decide +kernel⟩
theorem bd_law_lot : BindsBy "_law_lot" "_law_lot" s_law_lot ["_law_lots_here", "_law_parents_here"] := fun _ _ _ _ _ _ us hl => match us, hl with | [_, _], _ => rfl
abbrev N_law_name : List Str := ["_law_flow_here", "_law_size", "_law_turn"]
theorem sc_law_name : FnScope N_law_name ["_law_flow_here"] (defScope s_law_name) := ⟨rfl, rfl, rfl, by decide +kernel, rfl, by decide +kernel, by decide +kernel⟩
theorem bd_law_name : BindsBy "_law_name" "_law_name" s_law_name ["_law_flow_here"] := fun _ _ _ _ _ _ us hl => match us, hl with | [_], _ => rfl
abbrev N_law_joined : List Str := ["_law_row", "_law_between", "_law_number"]
theorem sc_law_joined : FnScope N_law_joined ["_law_row", "_law_between"] (defScope s_law_joined) := ⟨rfl, rfl, rfl, by decide +kernel, rfl, by decide +kernel, by decide +kernel⟩
theorem bd_law_joined : BindsBy "_law_joined" "_law_joined" s_law_joined ["_law_row", "_law_between"] := fun _ _ _ _ _ _ us hl => match us, hl with | [_, _], _ => rfl
abbrev N_law_lots : List Str := ["_law_rows", "_law_lots_here", "_law_parents_here"]
theorem sc_law_lots : FnScope N_law_lots ["_law_rows"] (defScope s_law_lots) := ⟨rfl, rfl, rfl, by decide +kernel, rfl, by decide +kernel, by decide +kernel⟩
theorem bd_law_lots : BindsBy "_law_lots" "_law_lots" s_law_lots ["_law_rows"] := fun _ _ _ _ _ _ us hl => match us, hl with | [_], _ => rfl
abbrev N_law_runtime : List Str := ["_law_rows", "_law_runtime_here", "_law_parents_here"]
theorem sc_law_runtime : FnScope N_law_runtime ["_law_rows"] (defScope s_law_runtime) := ⟨rfl, rfl, rfl, by decide +kernel, rfl, by decide +kernel, by decide +kernel⟩
theorem bd_law_runtime : BindsBy "_law_runtime" "_law_runtime" s_law_runtime ["_law_rows"] := fun _ _ _ _ _ _ us hl => match us, hl with | [_], _ => rfl
abbrev N_law_none : List Str := ["_law_words"]
theorem sc_law_none : FnScope N_law_none ["_law_words"] (defScope s_law_none) := ⟨rfl, rfl, rfl, by decide +kernel, rfl, by decide +kernel, by decide +kernel⟩
theorem bd_law_none : BindsBy "_law_none" "_law_none" s_law_none ["_law_words"] := fun _ _ _ _ _ _ us hl => match us, hl with | [_], _ => rfl
abbrev N_law_answer : List Str := ["_law_word", "_law_rows", "_law_x", "_law_p", "_law_runtime_here", "_law_triple", "_law_slots", "_law_kind", "_law_parents_here", "_law_group"]
theorem sc_law_answer : FnScope N_law_answer ["_law_word", "_law_rows", "_law_x", "_law_p"] (defScope s_law_answer) := ⟨rfl, rfl, rfl, by decide +kernel, rfl, by decide +kernel, by decide +kernel⟩
theorem bd_law_answer : BindsBy "_law_answer" "_law_answer" s_law_answer ["_law_word", "_law_rows", "_law_x", "_law_p"] := fun _ _ _ _ _ _ us hl => match us, hl with | [_, _, _, _], _ => rfl
abbrev N_law_tell : List Str := ["_law_desk", "_law_line", "_law_answer_here", "e"]
theorem sc_law_tell : FnScope N_law_tell ["_law_desk", "_law_line"] (defScope s_law_tell) := ⟨rfl, rfl, rfl, by decide +kernel, rfl, by decide +kernel, by decide +kernel⟩
theorem bd_law_tell : BindsBy "_law_tell" "_law_tell" s_law_tell ["_law_desk", "_law_line"] := fun _ _ _ _ _ _ us hl => match us, hl with | [_, _], _ => rfl
abbrev N_law_asked : List Str := ["_law_flow_here", "_law_desk", "_law_name_here", "_law_rows", "_law_word", "_law_x", "_law_p", "_law_line"]
theorem sc_law_asked : FnScope N_law_asked ["_law_flow_here", "_law_desk", "_law_name_here", "_law_rows"] (defScope s_law_asked) := ⟨rfl, rfl, rfl, by decide +kernel, rfl, by decide +kernel, by decide +kernel⟩
theorem bd_law_asked : BindsBy "_law_asked" "_law_asked" s_law_asked ["_law_flow_here", "_law_desk", "_law_name_here", "_law_rows"] := fun _ _ _ _ _ _ us hl => match us, hl with | [_, _, _, _], _ => rfl
abbrev N_law_load : List Str := ["_law_flow_here", "_law_desk", "_law_name_here", "_law_tables", "_law_shape", "_law_rows", "_law_parents_here", "_law_is_bad", "_law_answer_here", "_law_table"]
theorem sc_law_load : FnScope N_law_load ["_law_flow_here", "_law_desk", "_law_name_here", "_law_tables", "_law_shape"] (defScope s_law_load) := ⟨rfl, rfl, rfl, by decide +kernel, rfl, by decide +kernel, by decide +kernel⟩
theorem bd_law_load : BindsBy "_law_load" "_law_load" s_law_load ["_law_flow_here", "_law_desk", "_law_name_here", "_law_tables", "_law_shape"] := fun _ _ _ _ _ _ us hl => match us, hl with | [_, _, _, _, _], _ => rfl
abbrev N_law_undo : List Str := ["_law_desk", "_law_tables", "_law_answer_here"]
theorem sc_law_undo : FnScope N_law_undo ["_law_desk", "_law_tables"] (defScope s_law_undo) := ⟨rfl, rfl, rfl, by decide +kernel, rfl, by decide +kernel, by decide +kernel⟩
theorem bd_law_undo : BindsBy "_law_undo" "_law_undo" s_law_undo ["_law_desk", "_law_tables"] := fun _ _ _ _ _ _ us hl => match us, hl with | [_, _], _ => rfl
abbrev N_law_changed : List Str := ["_law_flow_here", "_law_desk", "_law_name_here", "_law_tables", "_law_way", "_law_shape", "_law_table", "_law_word"]
theorem sc_law_changed : FnScope N_law_changed ["_law_flow_here", "_law_desk", "_law_name_here", "_law_tables", "_law_way", "_law_shape"] (defScope s_law_changed) := ⟨rfl, rfl, rfl, by decide +kernel, rfl, by decide +kernel, by decide +kernel⟩
theorem bd_law_changed : BindsBy "_law_changed" "_law_changed" s_law_changed ["_law_flow_here", "_law_desk", "_law_name_here", "_law_tables", "_law_way", "_law_shape"] := fun _ _ _ _ _ _ us hl => match us, hl with | [_, _, _, _, _, _], _ => rfl
abbrev N_law_stands : List Str := ["_law_desk", "_law_table", "_law_names", "_law_name_here"]
theorem sc_law_stands : FnScope N_law_stands ["_law_desk", "_law_table"] (defScope s_law_stands) := ⟨rfl, rfl, rfl, by decide +kernel, rfl, by decide +kernel, by decide +kernel⟩
theorem bd_law_stands : BindsBy "_law_stands" "_law_stands" s_law_stands ["_law_desk", "_law_table"] := fun _ _ _ _ _ _ us hl => match us, hl with | [_, _], _ => rfl
abbrev N_law : List Str := ["_law_script", "_law_flow_here", "_law_shape", "_law_wanted", "_law_names", "_law_desk", "_law_tables", "_law_turn", "_law_name_here", "_law_way", "_law_many"]
theorem sc_law : FnScope N_law ["_law_script"] (defScope s_law) := ⟨rfl, rfl, rfl, by decide +kernel, rfl, by decide +kernel, by decide +kernel⟩
theorem bd_law : BindsBy "law" "law" s_law ["_law_script"] := fun _ _ _ _ _ _ us hl => match us, hl with | [_], _ => rfl
end Lk
set_option Elab.async false
set_option linter.all false
set_option maxRecDepth 100000
set_option maxHeartbeats 4000000
namespace Lk
open PySem PySem.Spec PyProof.Rows L2
open He (ga ma)
section
variable {P : Program} {w : World} {K : PySem.W.Frag} {mg : Str → Option Value} {base : Heap}
/-! ### checks -/
def spIsInt : Sp := fun vs H Q _ => ∃ i : Int, vs = [.int i] ∧ Q (.bl true) H
theorem ok_is_integer (T : Tx K mg) (F : Fx K) : DefOk P w K mg base CX0 1 (ga K "is_integer") ["thing"] spIsInt := by
  refine def0 F.f_is_integer bd_is_integer sc_is_integer (fun vs H Q E h => ?_) (fun cdv A outer s H vs Q E hr h => ?_)
  · obtain ⟨i, rfl, _⟩ := h
    rfl
  · obtain ⟨i, rfl, k⟩ := h
    refine ⟨_, pss_one (ps_ret (pe_and (pe_callB call_isi (by rfl) T.b_isinstance (by decide +kernel) (pa_cons (pv 0) (pa_cons (pe_bltn (v := .ty "int") (by rfl) T.b_int (by decide +kernel) rfl) pa_nil)))
      (pe_one (pe_not (pe_callB call_isi (by rfl) T.b_isinstance (by decide +kernel) (pa_cons (pv 0) (pa_cons (pe_bltn (v := .ty "bool") (by rfl) T.b_bool (by decide +kernel) rfl) pa_nil))))))), ?_⟩
    exact ⟨_, rfl, _, _, _, _, true, rfl, .ty "int", .base (.int i), kit_ty (by decide +kernel), _, rfl, iteT ⟨_, rfl, _, _, _, _, false, rfl, .ty "bool", .base (.int i), kit_ty (by decide +kernel), _, rfl, k⟩⟩
def spWithin : Sp := fun vs H Q _ => ∃ i a b : Int, vs = [.int i, .int a, .int b] ∧ Q (.bl (decide (a ≤ i) && decide (i ≤ b))) H
theorem ok_is_within (T : Tx K mg) (F : Fx K) : DefOk P w K mg base CX0 2 (ga K "is_within") ["thing", "least", "most"] spWithin := by
  have D1 := ok_is_integer (P := P) (w := w) (base := base) T F
  refine def0 F.f_is_within bd_is_within sc_is_within (fun vs H Q E h => ?_) (fun cdv A outer s H vs Q E hr h => ?_)
  · obtain ⟨i, a, b, rfl, _⟩ := h
    rfl
  · obtain ⟨i, a, b, rfl, k⟩ := h
    refine ⟨_, pss_one (ps_ret (pe_and (pe_cal D1 hr (by rfl) T.g_is_integer pass0 (pa_cons (pv 0) pa_nil)) (pe_one (pe_chain op_le op_le (pv 1) (pv 0) (pv 2))))), ?_⟩
    refine ⟨_, rfl, i, rfl, true, rfl, iteT ⟨_, rfl, _, rfl, _, _, rfl, rfl, _, rfl, ?_⟩⟩
    by_cases h : a ≤ i
    · rw [decide_eq_true h] at k ⊢
      exact iteT ⟨_, rfl, _, _, rfl, rfl, k⟩
    · rw [decide_eq_false h] at k ⊢
      exact iteF k
/-- an ascending lot from last + 1 to below many -/
def lotB (many : Int) : Int → List Int → Bool
  | _, [] => true
  | last, i :: r => (decide (last + 1 ≤ i) && decide (i ≤ many - 1)) && lotB many i r
def spLot (K : PySem.W.Frag) : Sp := fun vs H Q _ => ∃ (a : Addr) (ns : List Int) (many : Int), vs = [.ref a, .int many] ∧ H a = some (.tup (ns.map V.int)) ∧ Q (.bl (lotB many (-1) ns)) H
theorem get_map {α : Type} {f : α → V} {ns : List α} {i : Nat} {x : V} (h : (ns.map f)[i]? = some x) : ∃ n, ns[i]? = some n ∧ x = f n := by
  rw [List.getElem?_map] at h
  cases e : ns[i]? with
  | none =>
    rw [e] at h
    cases h
  | some n =>
    rw [e] at h
    exact ⟨n, rfl, (Option.some.inj h).symm⟩
theorem drop_get {α : Type} : ∀ {l : List α} {i : Nat} {x : α}, l[i]? = some x → l.drop i = x :: l.drop (i + 1)
  | [], i, x, h => by simp at h
  | a :: l, 0, x, h => by
    have e : a = x := Option.some.inj h
    rw [e]
    rfl
  | a :: l, i + 1, x, h => drop_get (l := l) (i := i) (x := x) h
theorem ok_is_lot (T : Tx K mg) (F : Fx K) : DefOk P w K mg base CX0 3 (ga K "is_lot") ["thing", "many"] (spLot K) := by
  have D1 := ok_is_within (P := P) (w := w) (base := base) T F
  refine def0 F.f_is_lot bd_is_lot sc_is_lot (fun vs H Q E h => ?_) (fun cdv A outer s H vs Q E hr h => ?_)
  · obtain ⟨a, ns, many, rfl, _⟩ := h
    rfl
  · obtain ⟨a, ns, many, rfl, ha, k⟩ := h
    refine ⟨_, pss_cons (ps_if (pt_not (pt_val (pe_callB call_isi (by rfl) T.b_isinstance (by decide +kernel) (pa_cons (pv 0) (pa_cons (pe_bltn (v := .ty "tuple") (by rfl) T.b_tuple (by decide +kernel) rfl) pa_nil))))) pss_never pss_nil)
      (pss_cons (ps_set (i := 2) sc_is_lot.nd rfl (Or.inl rfl) (pe_un un_neg pe_int))
      (pss_cons (ps_for PassesOwn.never rfl (pi_tup (pv 0)) (pg_name (i := 3) sc_is_lot.nd rfl (Or.inl rfl))
        (pss_cons (ps_if (pt_not (pt_val (pe_cal D1 hr (by rfl) T.g_is_within pass0 (pa_cons (pv 3) (pa_cons (pe_op op_add (pv 2) pe_int) (pa_cons (pe_op op_sub (pv 1) pe_int) pa_nil)))))) (pss_one (ps_ret pe_bl)) pss_nil)
          (pss_one (ps_set (i := 2) sc_is_lot.nd rfl (Or.inl rfl) (pv 3)))))
      (pss_one (ps_ret pe_bl)))), ?_⟩
    refine ⟨_, rfl, _, _, _, _, true, rfl, .ty "tuple", .base (.tup ha), kit_ty (by decide +kernel), _, rfl, iteF ?_⟩
    refine ⟨_, rfl, _, rfl, a, rfl, ⟨_, SqT.of ha⟩, for_tup (K := K) (a := a) (xs := ns.map V.int) (fun i σ H' => ∃ (l : Int) (v : Option V), σ = [some (.ref a), some (.int many), some (.int l), v] ∧ H' = H ∧ lotB many l (ns.drop i) = lotB many (-1) ns)
      ⟨-1, none, rfl, rfl, rfl⟩ (fun i σ H' _ ⟨_, _, _, e, _⟩ => e ▸ SqT.of ha) ?_ ?_⟩
    · rintro i x σ H' hi ⟨l, v, rfl, rfl, e⟩
      obtain ⟨n, hn, rfl⟩ := get_map hi
      rw [drop_get hn] at e
      have e : ((decide (l + 1 ≤ n) && decide (n ≤ many - 1)) && lotB many n (ns.drop (i + 1))) = lotB many (-1) ns := e
      refine ⟨_, rfl, _, rfl, _, _, rfl, rfl, _, rfl, _, _, rfl, rfl, n, l + 1, many - 1, rfl, _, rfl, ?_⟩
      cases h : (decide (l + 1 ≤ n) && decide (n ≤ many - 1)) with
      | false =>
        rw [h] at e
        refine iteT ?_
        rw [← e] at k
        exact k
      | true =>
        rw [h] at e
        refine iteF ?_
        exact ⟨_, rfl, n, _, rfl, rfl, e⟩
    · rintro σ H' ⟨l, v, rfl, rfl, e⟩
      rw [List.length_map, List.drop_length] at e
      rw [← e] at k
      exact k
end
end Lk
set_option Elab.async false
set_option linter.all false
set_option maxRecDepth 100000
set_option maxHeartbeats 4000000
namespace PySem
open Sem (wp)
open AutoSeq1 (wpAny_loadPart')
set_option maxHeartbeats 1000000 in
theorem lk_enumerate_newT (l : Addr) (items : Array Value) :
    Meets (Builtin.«enumerate.__new__» ⟨[.type "enumerate", .ref l], []⟩) (fun _ R s => s.heap.IsTuple l items ∧
      R (.ok (.ret (.ref (s.heap.push { cls := .type "tuple_iterator", data := .fields #[.ref l, .int 0 0] }).objs.size)))
        { s with heap := (s.heap.push { cls := .type "tuple_iterator", data := .fields #[.ref l, .int 0 0] }).push { cls := .type "enumerate", data := .fields #[.none, .bool false, .ref s.heap.objs.size, rawInt 0, .none, .none] } }) :=
  .of_wp fun prog w A R s h => by
    obtain ⟨hp, g, d, tk, os⟩ := s
    obtain ⟨h1, h⟩ := h
    have hsub := sub_enumerate
    have q1 : ∀ {A' : Around} {E : Value → Shared → Prop} {Q : Value → Shared → Prop}, Q (.ref hp.objs.size) ⟨hp.push { cls := .type "tuple_iterator", data := .fields #[.ref l, .int 0 0] }, g, d, tk, os⟩ → wpAny (model prog w) A' (pyIter (.ref l)) Q E ⟨hp, g, d, tk, os⟩ :=
      fun q => (begins_tuple l items).iter prog w _ _ ⟨hp, g, d, tk, os⟩ _ h1 q
    wp_walk using q1
    refine wpAny_stack_any fun st => wpAny_pure ?_
    split
    · rename_i c _ _ _ _ _
      cases (c == Value.type "enumerate")
      · wp_walk using q1
        exact ⟨_, rfl, h⟩
      · wp_walk using q1
        exact ⟨_, rfl, h⟩
    · wp_walk using q1
      exact ⟨_, rfl, h⟩
theorem lk_call_enumerateT {prog : Program} {w : World} {A : Around} {E : Value → Shared → Prop} {s : Shared} {l : Addr} {items : Array Value} {Q : Value → Shared → Prop} (hL : s.heap.IsTuple l items)
    (h : ∀ h', IsEnum h' (s.heap.objs.size + 1) s.heap.objs.size 0 .none → h'.IsTupleIter s.heap.objs.size l 0 → h'.objs.size = s.heap.objs.size + 2 →
      (∀ b o, s.heap.get? b = some o → h'.get? b = some o) → Q (.ref (s.heap.objs.size + 1)) { s with heap := h' }) :
    wpAny (model prog w) A (call (.type "enumerate") [.ref l]) Q E s := by
  refine callType_new F.called_enumerate (by decide) (F.typeCall_enumerate_1 _) (F.newCall_enumerate_1 _) (fun obj => F.args_object_init_2 obj _) F.entry_enumerate_new
    (lk_enumerate_newT l items) ⟨hL, ?_⟩
  have hz : (s.heap.push { cls := .type "tuple_iterator", data := .fields #[.ref l, .int 0 0] }).objs.size = s.heap.objs.size + 1 := Heap.size_push ..
  show _ ∧ _
  rw [hz]
  have he : IsEnum ((s.heap.push { cls := .type "tuple_iterator", data := .fields #[.ref l, .int 0 0] }).push { cls := .type "enumerate", data := .fields #[.none, .bool false, .ref s.heap.objs.size, rawInt 0, .none, .none] }) (s.heap.objs.size + 1) s.heap.objs.size 0 .none := by
    have := Heap.get?_push_size (s.heap.push { cls := .type "tuple_iterator", data := .fields #[.ref l, .int 0 0] }) (o := { cls := .type "enumerate", data := .fields #[.none, .bool false, .ref s.heap.objs.size, rawInt 0, .none, .none] }) rfl
    rw [hz] at this; exact this
  refine ⟨⟨_, he, rfl⟩, h _ he ⟨_, Heap.get?_push_of_some _ (Heap.get?_push_size _ rfl), rfl, rfl⟩ (by rw [Heap.size_push, hz]) fun b o x => Heap.get?_push_of_some _ (Heap.get?_push_of_some _ x)⟩
end PySem
namespace L2
open PySem PySem.Spec PyProof.Rows
/-! ### iterators that yield new tuples, from the library's walks -/
theorem turn_gen {P : Program} {w : World} {K : PySem.W.Frag} {elts : List Expr} {kk : Nat} {tpos : Pos} {fp : List Addr} {I : Addr} {tn : Nat → Heap → Prop} {J : It} (mem : I ∈ fp)
    (obj : ∀ i h, tn i h → ∀ b ∈ fp, ∃ o, h.get? b = some o ∧ ∀ v, o.data ≠ .cell v)
    (keep : ∀ i h h', tn i h → (∀ b ∈ fp, ∀ o, h.get? b = some o → h'.get? b = some o) → tn i h')
    (self : ∀ (A : Around) (i : Nat) (s : Shared) (Q : Value → Shared → Prop) (E : Value → Shared → Prop), tn i s.heap → Q (.ref I) s → wpAny (model P w) A (pyIter (.ref I)) Q E s)
    (go : ∀ (X : Cx), X.prog = P → X.w = w → X.K = K → X.calm = true → ∀ (i : Nat) (pins : List (Addr × Obj)) (s : Shared) (σ : St) (H : Hp), Inv X pins σ H s → tn i s.heap → J.go i H →
      ∃ fp' own n Pt St Mid, WalksT P w X.A I fp' own n Pt St Mid ∧ St i s.heap ∧ i < n ∧ (∀ b ∈ own, b ∈ fp) ∧ (∀ h, St (i + 1) h → tn (i + 1) h) ∧ ∀ vals, Pt i vals → ∃ xs, vals.size ≤ sizeLine ∧ Vals xs vals.toList ∧ ∀ T, H T = none → J.yld i H (.ref T) (upd H T (.tup xs)))
    (done : ∀ (X : Cx), X.prog = P → X.w = w → X.K = K → X.calm = true → ∀ (i : Nat) (pins : List (Addr × Obj)) (s : Shared) (σ : St) (H : Hp), Inv X pins σ H s → tn i s.heap → J.stop i H →
      ∃ fp' own Pt St Mid, WalksT P w X.A I fp' own i Pt St Mid ∧ St i s.heap ∧ ∀ b ∈ own, b ∈ fp) : Turn P w K (.Tuple elts kk tpos) J fp I tn where
  mem := mem
  obj := obj
  keep := keep
  self := self
  item := by
    intro X hP hw hK hc i pins s σ H E Iv hf st hg
    obtain ⟨fp', own, n, Pt, St, Mid, W, hst, hi, hown, hnx, hpt⟩ := go X hP hw hK hc i pins s σ H Iv st hg
    subst hP hw hK
    refine W.item i s _ E hi hst fun T vals h' tk hp hT ht hm hk => ?_
    refine ⟨_, rfl, W.go elts kk tpos i T { s with heap := h', toks := tk } _ E hm fun h'' hst'' hk'' => ?_⟩
    obtain ⟨xs, hz, rv, hy⟩ := hpt vals hp
    have hn : H T = none := Iv.hok.fresh hT
    have ht2 : h''.IsTuple T vals := by
      obtain ⟨o, e, c, d⟩ := ht
      exact ⟨o, hk'' T o (W.apart i T h' hm) e, c, d⟩
    have new : ObjOk X.prog X.w (upd H T (.tup xs)) h'' T (.tup xs) := ⟨by rw [rv.length, Array.length_toList]; exact hz, vals.toList, rv, by rw [Array.toArray_toList]; exact ht2⟩
    have I1 : Inv X pins σ (upd H T (.tup xs)) { s with heap := h'', toks := tk } := Iv.turnedNew (ch := fp) (fun b o hb q => hk'' b o (fun z => hb (hown b z)) (hk b o (fun z => hb (hown b z)) q)) hf hT new
    refine ⟨.ref T, _, I1, rfl, hy T hn, hnx _ hst'', fun b hb => ?_⟩
    obtain ⟨o, e, _⟩ := obj i _ st b hb
    rw [upd_ne (Nat.ne_of_lt (Nat.lt_of_lt_of_le (Heap.lt_size e) hT))]
    exact (hf b hb).1
  done := by
    intro X hP hw hK hc i pins s σ H E Iv hf st hg
    obtain ⟨fp', own, Pt, St, Mid, W, hst, hown⟩ := done X hP hw hK hc i pins s σ H Iv st hg
    subst hP hw hK
    exact W.done s _ E hst fun h' tk hk => ⟨rfl, Iv.turnedL (ch := fp) (fun b o hb q => hk b o (fun z => hb (hown b z)) q) hf⟩
/-! ### enumerate(tuple) -/
def IteT (K : PySem.W.Frag) (a : Addr) : It :=
  ⟨fun i H => ∃ (xs : List V) (x : V), SqT K H a xs ∧ xs[i]? = some x, fun i H v H' => ∃ T x, v = .ref T ∧ H T = none ∧ H' = upd H T (.tup [.int (i : Nat), x]) ∧ ∀ xs, SqT K H a xs → xs[i]? = some x, fun i H => ∃ xs : List V, SqT K H a xs ∧ xs.length = i⟩
theorem turn_enumT {P : Program} {w : World} {K : PySem.W.Frag} {elts : List Expr} {kk : Nat} {tpos : Pos} {a e it : Addr} (hae : a ≠ e) (hai : a ≠ it) (hei : e ≠ it) :
    Turn P w K (.Tuple elts kk tpos) (IteT K a) [e, it] e (fun i h => (∃ old, IsEnum h e it ((i : Nat) : Int) old) ∧ h.IsTupleIter it a i) := by
  have wk : ∀ (X : Cx), X.prog = P → X.w = w → X.K = K → X.calm = true → ∀ (i : Nat) (pins : List (Addr × Obj)) (s : Shared) (σ : St) (H : Hp) (xs : List V), Inv X pins σ H s → ((∃ old, IsEnum s.heap e it ((i : Nat) : Int) old) ∧ s.heap.IsTupleIter it a i) → SqT K H a xs →
      ∃ (its : List Value) (Mid : Nat → Addr → Heap → Prop), Vals xs its ∧ xs.length ≤ sizeLine ∧ WalksT P w X.A e (e :: [it, a]) [e, it] its.length (fun i vals => ∃ t x, its.toArray[i]? = some x ∧ vals = #[.int ((0 : Int) + (i : Int)) t, x])
        (fun i h => (∃ old, IsEnum h e it ((0 : Int) + (i : Int)) old) ∧ (h.IsTupleIter it a i ∧ h.IsTuple a its.toArray)) Mid ∧ ((∃ old, IsEnum s.heap e it ((0 : Int) + (i : Int)) old) ∧ (s.heap.IsTupleIter it a i ∧ s.heap.IsTuple a its.toArray)) := by
    intro X hP hw hK hc i pins s σ H xs Iv st hq
    subst hP hw hK
    obtain ⟨its, rv, p, hz⟩ := Iv.tuple hq
    have z : ∀ j : Nat, (0 : Int) + (j : Int) = (j : Int) := fun j => by omega
    have W := WalksT.enumFrom (A := X.A) 0 (Draws.tuple (prog := X.prog) (w := X.w) (A := X.A.in1) (Iv.ok.hd hc) it a hai its.toArray) e hei (by simp [hei, Ne.symm hae]) (by simp)
    rw [show its.toArray.size = its.length by simp] at W
    refine ⟨its, _, rv, hz, W, ?_, st.2, p⟩
    rw [z i]
    exact st.1
  refine turn_gen (by simp) (fun i h st b hb => ?_) (fun i h h' st k => ⟨?_, st.2.at fun o q => k it (by simp) o q⟩) (fun A i s Q E st h => let ⟨⟨_, he⟩, _⟩ := st; wpAny_pyIter_enum he h) ?_ ?_
  · obtain ⟨⟨old, he⟩, ⟨o, ho, hc, hd⟩⟩ := st
    have e' : b = e ∨ b = it := by simpa using hb
    rcases e' with z | z
    · rw [z]; exact ⟨_, he, fun v q => nomatch q⟩
    · rw [z]; exact ⟨o, ho, fun v q => by rw [hd] at q; cases q⟩
  · obtain ⟨⟨old, he⟩, _⟩ := st
    exact ⟨old, k e (by simp) _ he⟩
  · intro X hP hw hK hc i pins s σ H Iv st hg
    obtain ⟨xs, x, hq, hx⟩ := hg
    obtain ⟨its, Mid, rv, hz, W, hst⟩ := wk X hP hw hK hc i pins s σ H xs Iv st hq
    have hlt : i < xs.length := (List.getElem?_eq_some_iff.mp hx).1
    refine ⟨_, _, _, _, _, _, W, hst, by rw [← rv.length]; exact hlt, fun b hb => hb, fun h st' => ⟨?_, st'.2.1⟩, fun vals hp => ?_⟩
    · obtain ⟨old, he⟩ := st'.1
      exact ⟨old, by simpa using he⟩
    · obtain ⟨t, y, hy, rfl⟩ := hp
      obtain ⟨u, hu, ru⟩ := rv.get hx
      have ey : y = u := by
        have hy' : its[i]? = some y := by simpa using hy
        rw [hu] at hy'
        exact (Option.some.inj hy').symm
      subst ey
      refine ⟨[.int (i : Nat), x], by show 2 ≤ sizeLine; decide, .cons ⟨t, by simp⟩ (.cons ru .nil), fun T hT => ⟨T, x, rfl, hT, rfl, fun ys hy2 => ?_⟩⟩
      subst hP hw hK
      rw [Iv.tuple_inj hy2 hq]
      exact hx
  · intro X hP hw hK hc i pins s σ H Iv st hg
    obtain ⟨xs, hq, hx⟩ := hg
    obtain ⟨its, Mid, rv, hz, W, hst⟩ := wk X hP hw hK hc i pins s σ H xs Iv st hq
    rw [← rv.length, hx] at W
    exact ⟨_, _, _, _, _, W, hst, fun b hb => hb⟩
def iEnumT (K : PySem.W.Frag) (ta : TA) : TI := fun σ H R => ta σ H fun vs H1 => ∃ a xs, vs = [.ref a] ∧ SqT K H1 a xs ∧ R (IteT K a) H1
theorem pi_enumT {X : Cx} {e : Expr} {ta : TA} {p pos tpos : Pos} {elts : List Expr} {kk : Nat} (hg : Gl X "enumerate") (hm : X.mg "enumerate" = none) (ha : PA X [e] ta) (hs : starEach [e] X.env = [(false, eval e X.env)] := by rfl) :
    PI X (.Tuple elts kk tpos) (.Call (.Name "enumerate" p) [e] [] pos) (iEnumT X.K ta) := by
  refine ⟨fun pins s σ H R I h => ?_⟩
  refine Call_ (ld_blt I hg hm boot_enumerate (PyProof.Rows.callWith_type1 (thn (ha.run pos pins s σ H _ I h) fun us s1 ⟨vs, H1, I1, r1, q1⟩ => ?_) hs rfl))
  obtain ⟨a, xs, ex, hq, q⟩ := q1
  subst ex
  cases r1 with
  | cons r rr =>
    cases rr
    cases r
    obtain ⟨its, rv, p', hz⟩ := I1.tuple hq
    have hal : a < s1.heap.objs.size := by obtain ⟨_, z, _⟩ := p'; exact Heap.lt_size z
    refine lk_call_enumerateT (show s1.heap.IsTuple a its.toArray from p') fun h' he hit hsz hk => wpAny_pyIter_enum he ?_
    have I2 : Inv X pins σ H1 { s1 with heap := h' } := I1.kept (t' := s1.toks) hk
    refine ⟨s1.heap.objs.size + 1, [s1.heap.objs.size + 1, s1.heap.objs.size], _, _, H1, rfl, I2, turn_enumT (a := a) (e := s1.heap.objs.size + 1) (it := s1.heap.objs.size) (Nat.ne_of_lt (Nat.lt_succ_of_lt hal)) (Nat.ne_of_lt hal) (Nat.succ_ne_self _), ⟨⟨.none, he⟩, hit⟩, fun b hb => ?_, q⟩
    have hle : s1.heap.objs.size ≤ b := by
      have e' : b = s1.heap.objs.size + 1 ∨ b = s1.heap.objs.size := by simpa using hb
      rcases e' with q | q
      · rw [q]; exact Nat.le_succ _
      · rw [q]; exact Nat.le_refl _
    exact I1.fpOk hle (I1.hok.fresh hle)
/-! ### zip(tuple, list) -/
def ItzM (K : PySem.W.Frag) (a b : Addr) : It :=
  ⟨fun i H => ∃ (xs ys : List V) (x y : V), SqT K H a xs ∧ SqL K H b ys ∧ xs[i]? = some x ∧ ys[i]? = some y,
    fun i H v H' => ∃ T x y, v = .ref T ∧ H T = none ∧ H' = upd H T (.tup [x, y]) ∧ (∀ xs, SqT K H a xs → xs[i]? = some x) ∧ ∀ ys, SqL K H b ys → ys[i]? = some y,
    fun i H => ∃ xs ys : List V, SqT K H a xs ∧ SqL K H b ys ∧ xs.length = i ∧ ys.length = i⟩
theorem turn_zipM {P : Program} {w : World} {K : PySem.W.Frag} {elts : List Expr} {kk : Nat} {tpos : Pos} {a b z TI TO i1 i2 : Addr} (S : ZipSep2 z TI TO i1 i2 [i1, a] [i2, b]) (hai : a ≠ i1) (hbi : b ≠ i2) :
    Turn P w K (.Tuple elts kk tpos) (ItzM K a b) [z, TI, TO, i1, i2] z (fun i h => IsZip h z TI TO .none ∧ IsTupOf2 h TI (.ref i1) (.ref i2) ∧ (∃ x y, IsTupOf2 h TO x y) ∧ h.IsTupleIter i1 a i ∧ h.IsListIter i2 b i) := by
  have wk : ∀ (X : Cx), X.prog = P → X.w = w → X.K = K → X.calm = true → ∀ (i : Nat) (pins : List (Addr × Obj)) (s : Shared) (σ : St) (H : Hp) (xs ys : List V), Inv X pins σ H s → (IsZip s.heap z TI TO .none ∧ IsTupOf2 s.heap TI (.ref i1) (.ref i2) ∧ (∃ x y, IsTupOf2 s.heap TO x y) ∧ s.heap.IsTupleIter i1 a i ∧ s.heap.IsListIter i2 b i) → SqT K H a xs → SqL K H b ys →
      ∃ (its its2 : List Value), Vals xs its ∧ Vals ys its2 ∧ s.heap.IsTuple a its.toArray ∧ s.heap.IsList b its2.toArray ∧ (X.A.in1).handled = none := by
    intro X hP hw hK hc i pins s σ H xs ys Iv st hq hq2
    subst hP hw hK
    obtain ⟨its, rv, p, hz⟩ := Iv.tuple hq
    obtain ⟨its2, rv2, p2, hz2⟩ := Iv.list hq2
    exact ⟨its, its2, rv, rv2, p, p2.isList, Iv.ok.hd hc⟩
  refine turn_gen (by simp) (fun i h st c hc => ?_) (fun i h h' st k => ?_) (fun A i s Q E st h => wpAny_pyIter_zip st.1 h) ?_ ?_
  · obtain ⟨hz, hTI, ⟨x, y, hTO⟩, ⟨o1, e1, _, d1⟩, ⟨o2, e2, _, d2⟩⟩ := st
    have e' : c = z ∨ c = TI ∨ c = TO ∨ c = i1 ∨ c = i2 := by simpa using hc
    rcases e' with q | q | q | q | q
    · rw [q]; exact ⟨_, hz, fun v q => nomatch q⟩
    · rw [q]; exact ⟨_, hTI, fun v q => nomatch q⟩
    · rw [q]; exact ⟨_, hTO, fun v q => nomatch q⟩
    · rw [q]; exact ⟨o1, e1, fun v q => by rw [d1] at q; cases q⟩
    · rw [q]; exact ⟨o2, e2, fun v q => by rw [d2] at q; cases q⟩
  · obtain ⟨hz, hTI, ⟨x, y, hTO⟩, h1, h2⟩ := st
    exact ⟨k z (by simp) _ hz, k TI (by simp) _ hTI, ⟨x, y, k TO (by simp) _ hTO⟩, h1.at fun o q => k i1 (by simp) o q, h2.at fun o q => k i2 (by simp) o q⟩
  · intro X hP hw hK hc i pins s σ H Iv st hg
    obtain ⟨xs, ys, x, y, hq, hq2, hx, hy⟩ := hg
    obtain ⟨its, its2, rv, rv2, p, p2, hh⟩ := wk X hP hw hK hc i pins s σ H xs ys Iv st hq hq2
    have W := WalksT.zipD2 S (Draws.tuple (prog := P) (w := w) (A := X.A.in1) hh i1 a hai its.toArray) (Draws.list (prog := P) (w := w) (A := X.A.in1) hh i2 b hbi its2.toArray)
    have hlt : i < xs.length := (List.getElem?_eq_some_iff.mp hx).1
    have hlt2 : i < ys.length := (List.getElem?_eq_some_iff.mp hy).1
    rw [rv.length] at hlt
    rw [rv2.length] at hlt2
    refine ⟨_, _, _, _, _, _, W, ⟨st.1, st.2.1, st.2.2.1, ⟨st.2.2.2.1, p⟩, ⟨st.2.2.2.2, p2⟩⟩, by simp only [List.size_toArray]; omega, fun b hb => ?_, fun h st' => ⟨st'.1, st'.2.1, st'.2.2.1, st'.2.2.2.1.1, st'.2.2.2.2.1⟩, fun vals hp => ?_⟩
    · have e' : b = z ∨ b = TO ∨ b = i1 ∨ b = i2 := by simpa using hb
      rcases e' with q | q | q | q <;> simp [q]
    · obtain ⟨v1, v2, h1, h2, rfl⟩ := hp
      obtain ⟨u, hu, ru⟩ := rv.get hx
      obtain ⟨u2, hu2, ru2⟩ := rv2.get hy
      have e1 : v1 = u := by
        have h1' : its[i]? = some v1 := by simpa using h1
        rw [hu] at h1'
        exact (Option.some.inj h1').symm
      have e2 : v2 = u2 := by
        have h2' : its2[i]? = some v2 := by simpa using h2
        rw [hu2] at h2'
        exact (Option.some.inj h2').symm
      subst e1 e2
      subst hP hw hK
      exact ⟨[x, y], by show 2 ≤ sizeLine; decide, .cons ru (.cons ru2 .nil), fun T hT => ⟨T, x, y, rfl, hT, rfl, fun l hl => by rw [Iv.tuple_inj hl hq]; exact hx, fun l hl => by rw [Iv.list_inj hl hq2]; exact hy⟩⟩
  · intro X hP hw hK hc i pins s σ H Iv st hg
    obtain ⟨xs, ys, hq, hq2, hx, hy⟩ := hg
    obtain ⟨its, its2, rv, rv2, p, p2, hh⟩ := wk X hP hw hK hc i pins s σ H xs ys Iv st hq hq2
    have W := WalksT.zipD2 S (Draws.tuple (prog := P) (w := w) (A := X.A.in1) hh i1 a hai its.toArray) (Draws.list (prog := P) (w := w) (A := X.A.in1) hh i2 b hbi its2.toArray)
    rw [show min its.toArray.size its2.toArray.size = i by rw [List.size_toArray, List.size_toArray, ← rv.length, ← rv2.length, hx, hy]; exact Nat.min_self _] at W
    refine ⟨_, _, _, _, _, W, ⟨st.1, st.2.1, st.2.2.1, ⟨st.2.2.2.1, p⟩, ⟨st.2.2.2.2, p2⟩⟩, fun b hb => ?_⟩
    have e' : b = z ∨ b = TO ∨ b = i1 ∨ b = i2 := by simpa using hb
    rcases e' with q | q | q | q <;> simp [q]
def iZipM (K : PySem.W.Frag) (ta : TA) : TI := fun σ H R => ta σ H fun vs H1 => ∃ a b xs ys, vs = [.ref a, .ref b] ∧ SqT K H1 a xs ∧ SqL K H1 b ys ∧ R (ItzM K a b) H1
theorem pi_zipM {X : Cx} {e e2 : Expr} {ta : TA} {p pos tpos : Pos} {elts : List Expr} {kk : Nat} (hg : Gl X "zip") (hm : X.mg "zip" = none) (ha : PA X [e, e2] ta)
    (hs : starEach [e, e2] X.env = (false, eval e X.env) :: starEach [e2] X.env := by rfl) (hpl : (backTo pos (starEach [e2] X.env)).any (·.1) = false := by rfl) :
    PI X (.Tuple elts kk tpos) (.Call (.Name "zip" p) [e, e2] [] pos) (iZipM X.K ta) := by
  refine ⟨fun pins s σ H R I h => ?_⟩
  refine Call_ (ld_blt I hg hm PyProof.Rows.boot_zip (PyProof.Rows.callWith_type1 (thn (ha.run pos pins s σ H _ I h) fun us s1 ⟨vs, H1, I1, r1, q1⟩ => ?_) hs hpl))
  obtain ⟨a, b, xs, ys, ex, hqx, hqy, q⟩ := q1
  subst ex
  cases r1 with
  | cons r rr =>
    cases rr with
    | cons r' rr =>
      cases rr
      cases r
      cases r'
      obtain ⟨its, rv, p1, _⟩ := I1.tuple hqx
      obtain ⟨its2, rv2, p2, _⟩ := I1.list hqy
      have ha' : a < s1.heap.objs.size := by obtain ⟨_, z, _⟩ := p1; exact Heap.lt_size z
      have hb' : b < s1.heap.objs.size := p2.lt
      refine zip_begins2 (begins_tuple a its.toArray) (begins_list b its2.toArray) (show s1.heap.IsTuple a its.toArray from p1) p2.isList fun h' hz hTI hTO h1 h2 hsz hk => wpAny_pyIter_zip hz ?_
      have I2 : Inv X pins σ H1 { s1 with heap := h' } := I1.kept (t' := s1.toks) hk
      refine ⟨s1.heap.objs.size + 4, [s1.heap.objs.size + 4, s1.heap.objs.size + 2, s1.heap.objs.size + 3, s1.heap.objs.size, s1.heap.objs.size + 1], _, _, H1, rfl, I2,
        turn_zipM (zip_sep2 (N := s1.heap.objs.size) (fp1 := [a]) (fp2 := [b]) (fun c hc => by rw [List.mem_singleton.mp hc]; exact ha') (fun c hc => by rw [List.mem_singleton.mp hc]; exact hb')) (Nat.ne_of_lt ha') (Nat.ne_of_lt (Nat.lt_succ_of_lt hb')), ⟨hz, hTI, ⟨_, _, hTO⟩, ⟨_, h1, rfl, rfl⟩, ⟨_, h2, rfl, rfl⟩⟩, fun c hcm => ?_, q⟩
      have e' : c = s1.heap.objs.size + 4 ∨ c = s1.heap.objs.size + 2 ∨ c = s1.heap.objs.size + 3 ∨ c = s1.heap.objs.size ∨ c = s1.heap.objs.size + 1 := by simpa using hcm
      have hle : s1.heap.objs.size ≤ c := by
        rcases e' with z | z | z | z | z
        · rw [z]; exact Nat.le_add_right _ _
        · rw [z]; exact Nat.le_add_right _ _
        · rw [z]; exact Nat.le_add_right _ _
        · rw [z]; exact Nat.le_refl _
        · rw [z]; exact Nat.le_add_right _ _
      exact I1.fpOk hle (I1.hok.fresh hle)
/-! ### comprehensions over these -/
/-- over zip(t, l) of one length -/
theorem lc_zipM {K : PySem.W.Frag} {a b : Addr} {xs ys : List V} {g : TG} {tt : TT} {te : TE} {vs : List Nat} {σ : St} {H1 : Hp} {D : Addr} {Qd : Hp → Prop} (hl : xs.length = ys.length) (Pv : Nat → Hp → Prop) (h0 : Pv 0 (upd H1 D (.lst []))) (hq : ∀ i H, Pv i H → SqT K H a xs ∧ SqL K H b ys)
    (hs : ∀ i x y T H, xs[i]? = some x → ys[i]? = some y → Pv i H → H T = none → g (.ref T) (wipe σ vs) (upd H T (.tup [x, y])) fun σ2 H2 => wipe σ2 vs = wipe σ vs ∧ tt σ2 H2 fun b H3 =>
      if b = true then te σ2 H3 fun y H4 => ∃ acc, H4 D = some (.lst acc) ∧ acc.length < sizeLine ∧ Pv (i + 1) (upd H4 D (.lst (acc ++ [y]))) else Pv (i + 1) H3) (hd : ∀ H, Pv xs.length H → Qd H) :
    ∃ W : Nat → Nat → Hp → Prop, (∃ m, W 0 m (upd H1 D (.lst []))) ∧ ∀ i m H, W i m H →
      ((ItzM K a b).stop i H ∧ Qd H) ∨ ((ItzM K a b).go i H ∧ ∃ Nx : Hp → Prop, (∀ H', Nx H' → ∃ m', m' < m ∧ W (i + 1) m' H') ∧ ∀ x H', (ItzM K a b).yld i H x H' → g x (wipe σ vs) H' fun σ2 H2 => wipe σ2 vs = wipe σ vs ∧ tt σ2 H2 fun b H3 =>
        if b = true then te σ2 H3 fun y H4 => ∃ acc, H4 D = some (.lst acc) ∧ acc.length < sizeLine ∧ Nx (upd H4 D (.lst (acc ++ [y]))) else Nx H3) := by
  refine ⟨fun i m H => m = xs.length - i ∧ i ≤ xs.length ∧ Pv i H, ⟨xs.length, rfl, Nat.zero_le _, h0⟩, ?_⟩
  rintro i m H ⟨rfl, hi, p⟩
  obtain ⟨qx, qy⟩ := hq i H p
  by_cases hlt : i < xs.length
  · have hx : xs[i]? = some xs[i] := List.getElem?_eq_getElem hlt
    have hlt2 : i < ys.length := by omega
    have hy : ys[i]? = some ys[i] := List.getElem?_eq_getElem hlt2
    refine .inr ⟨⟨xs, ys, _, _, qx, qy, hx, hy⟩, Pv (i + 1), fun H' p' => ⟨xs.length - (i + 1), by omega, rfl, hlt, p'⟩, fun v H' y => ?_⟩
    obtain ⟨T, x', y', rfl, hT, rfl, f1, f2⟩ := y
    exact hs i x' y' T H (f1 xs qx) (f2 ys qy) p hT
  · have e : i = xs.length := by omega
    subst e
    exact .inl ⟨⟨xs, ys, qx, qy, rfl, hl.symm⟩, hd H p⟩
/-- over enumerate(l) -/
theorem lc_enum {K : PySem.W.Frag} {a : Addr} {xs : List V} {g : TG} {tt : TT} {te : TE} {vs : List Nat} {σ : St} {H1 : Hp} {D : Addr} {Qd : Hp → Prop} (Pv : Nat → Hp → Prop) (h0 : Pv 0 (upd H1 D (.lst []))) (hq : ∀ i H, Pv i H → SqL K H a xs)
    (hs : ∀ i x T H, xs[i]? = some x → Pv i H → H T = none → g (.ref T) (wipe σ vs) (upd H T (.tup [.int (i : Nat), x])) fun σ2 H2 => wipe σ2 vs = wipe σ vs ∧ tt σ2 H2 fun b H3 =>
      if b = true then te σ2 H3 fun y H4 => ∃ acc, H4 D = some (.lst acc) ∧ acc.length < sizeLine ∧ Pv (i + 1) (upd H4 D (.lst (acc ++ [y]))) else Pv (i + 1) H3) (hd : ∀ H, Pv xs.length H → Qd H) :
    ∃ W : Nat → Nat → Hp → Prop, (∃ m, W 0 m (upd H1 D (.lst []))) ∧ ∀ i m H, W i m H →
      ((Ite K a).stop i H ∧ Qd H) ∨ ((Ite K a).go i H ∧ ∃ Nx : Hp → Prop, (∀ H', Nx H' → ∃ m', m' < m ∧ W (i + 1) m' H') ∧ ∀ x H', (Ite K a).yld i H x H' → g x (wipe σ vs) H' fun σ2 H2 => wipe σ2 vs = wipe σ vs ∧ tt σ2 H2 fun b H3 =>
        if b = true then te σ2 H3 fun y H4 => ∃ acc, H4 D = some (.lst acc) ∧ acc.length < sizeLine ∧ Nx (upd H4 D (.lst (acc ++ [y]))) else Nx H3) := by
  refine ⟨fun i m H => m = xs.length - i ∧ i ≤ xs.length ∧ Pv i H, ⟨xs.length, rfl, Nat.zero_le _, h0⟩, ?_⟩
  rintro i m H ⟨rfl, hi, p⟩
  have qx := hq i H p
  by_cases hlt : i < xs.length
  · have hx : xs[i]? = some xs[i] := List.getElem?_eq_getElem hlt
    refine .inr ⟨⟨xs, _, qx, hx⟩, Pv (i + 1), fun H' p' => ⟨xs.length - (i + 1), by omega, rfl, hlt, p'⟩, fun v H' y => ?_⟩
    obtain ⟨T, x', rfl, hT, rfl, f1⟩ := y
    exact hs i x' T H (f1 xs qx) p hT
  · have e : i = xs.length := by omega
    subst e
    exact .inl ⟨⟨xs, qx, Nat.le_refl _⟩, hd H p⟩
/-- a loop over enumerate(l) -/
theorem for_enum {K : PySem.W.Frag} {a : Addr} {xs : List V} {g : TG} {tb : TS} {D : Ends} {σ : St} {H : Hp} (Pv : Nat → St → Hp → Prop) (h0 : Pv 0 σ H) (hq : ∀ i σ H, Pv i σ H → SqL K H a xs)
    (hs : ∀ (i : Nat) (x : V) (T : Addr) (σ : St) (H : Hp), xs[i]? = some x → Pv i σ H → H T = none → g (.ref T) σ (upd H T (.tup [.int (i : Nat), x])) fun σ2 H2 => tb { D with nx := Pv (i + 1), ct := Pv (i + 1), bk := D.nx } σ2 H2) (hd : ∀ σ H, Pv xs.length σ H → D.nx σ H) :
    ∃ W : Nat → Nat → St → Hp → Prop, (∃ m, W 0 m σ H) ∧ ∀ i m σ H, W i m σ H →
      ((Ite K a).stop i H ∧ D.nx σ H) ∨ ((Ite K a).go i H ∧ ∃ N : St → Hp → Prop, (∀ σ' H', N σ' H' → ∃ m', m' < m ∧ W (i + 1) m' σ' H') ∧ ∀ v H', (Ite K a).yld i H v H' → g v σ H' fun σ2 H2 => tb { D with nx := N, ct := N, bk := D.nx } σ2 H2) := by
  refine ⟨fun i m σ H => m = xs.length - i ∧ i ≤ xs.length ∧ Pv i σ H, ⟨xs.length, rfl, Nat.zero_le _, h0⟩, ?_⟩
  rintro i m σ H ⟨rfl, hi, p⟩
  have qx := hq i σ H p
  by_cases hlt : i < xs.length
  · have hx : xs[i]? = some xs[i] := List.getElem?_eq_getElem hlt
    refine .inr ⟨⟨xs, _, qx, hx⟩, Pv (i + 1), fun σ' H' p' => ⟨xs.length - (i + 1), by omega, rfl, hlt, p'⟩, fun v H' y => ?_⟩
    obtain ⟨T, x', rfl, hT, rfl, f1⟩ := y
    exact hs i x' T σ H (f1 xs qx) p hT
  · have e : i = xs.length := by omega
    subst e
    exact .inl ⟨⟨xs, qx, Nat.le_refl _⟩, hd σ H p⟩
/-- no turn over enumerate(()) -/
theorem for_enumT0 {K : PySem.W.Frag} {a : Addr} {g : TG} {tb : TS} {D : Ends} {σ : St} {H : Hp} (ha : SqT K H a []) (hd : D.nx σ H) :
    ∃ W : Nat → Nat → St → Hp → Prop, (∃ m, W 0 m σ H) ∧ ∀ i m σ H, W i m σ H →
      ((IteT K a).stop i H ∧ D.nx σ H) ∨ ((IteT K a).go i H ∧ ∃ N : St → Hp → Prop, (∀ σ' H', N σ' H' → ∃ m', m' < m ∧ W (i + 1) m' σ' H') ∧ ∀ v H', (IteT K a).yld i H v H' → g v σ H' fun σ2 H2 => tb { D with nx := N, ct := N, bk := D.nx } σ2 H2) := by
  refine ⟨fun i m σ' H' => i = 0 ∧ σ' = σ ∧ H' = H, ⟨0, rfl, rfl, rfl⟩, ?_⟩
  rintro i m σ' H' ⟨rfl, rfl, rfl⟩
  exact .inl ⟨⟨[], ha, rfl⟩, hd⟩
end L2
set_option Elab.async false
set_option linter.all false
set_option maxRecDepth 100000
set_option maxHeartbeats 4000000
namespace Lk
open PySem PySem.Spec PyProof.Rows L2
open He (ga ma)
/-! ### the mirror: what the program computes, over lists of numbers -/
structure M where
  bits : List Nat
  trip : List (Nat × Nat × List Nat)
  lots : List (List Nat)
  held : List (List Nat)
def bitNew (bits : List Nat) (r : List Nat) : Nat := r.foldl (fun b p => b ||| bits.getD p 0) (2 ^ bits.length)
def oneM (bits : List Nat) (x p : Nat) : Bool := (bits.getD x 0).testBit p
def fitM (bits : List Nat) (held : List (List Nat)) (x : Nat) (lot : List Nat) : Option Nat := (lot.filter fun s => oneM bits x ((held.getD s []).getLastD 0)).min?
def takenM (f : List Nat → Option Nat) : Nat → List (List Nat) → Nat × Option Nat
  | n, [] => (n, none)
  | n, lot :: r => if (f lot).isSome || decide (lot.length ≤ n) then (n, f lot) else takenM f (n + 1) r
/-- a slot for x: groups, holders, slot -/
def putM (bits : List Nat) (lots held : List (List Nat)) (x : Nat) : List (List Nat) × List (List Nat) × Nat :=
  let q := takenM (fitM bits held x) 0 lots
  let lots1 := if q.1 = lots.length then lots ++ [[]] else lots
  let slot := q.2.getD held.length
  let held1 := if q.2.isSome then held else held ++ [[]]
  let lots2 := if q.2.isSome then lots1 else lots1.set q.1 (lots1.getD q.1 [] ++ [slot])
  let held2 := held1.set slot (held1.getD slot [] ++ [x])
  let lots3 := if 0 < q.1 then (lots2.set q.1 (lots2.getD (q.1 - 1) [] ++ [slot])).set (q.1 - 1) ((lots2.getD q.1 []).filter fun one => decide (one ≠ slot)) else lots2
  (lots3, held2, slot)
def entM (bits : List Nat) (held : List (List Nat)) (x : Nat) : List Nat := held.map fun row => (row.filter fun kind => oneM bits x kind).length
def nextM (m : M) (r : List Nat) : M :=
  let bits := m.bits ++ [bitNew m.bits r]
  let x := m.trip.length
  let q := putM bits m.lots m.held x
  { bits := bits, trip := m.trip ++ [(q.2.2, (q.2.1.getD q.2.2 []).length, entM bits q.2.1 x)], lots := q.1, held := q.2.1 }
def m0 : M := ⟨[], [], [], []⟩
def runM (rows : List (List Nat)) : M := rows.foldl nextM m0
theorem runM_snoc (rows : List (List Nat)) (r : List Nat) : runM (rows ++ [r]) = nextM (runM rows) r := by
  unfold runM
  rw [List.foldl_append]
  rfl
def mostL (lots : List (List Nat)) (i : Nat) : List Nat := (List.range i).filterMap fun k => if 0 < (lots.getD k []).length then some (k + 1) else none
def mostM (lots : List (List Nat)) : Nat := (mostL lots lots.length).foldl max 0
/-- ascending -/
def ins (a : Nat) : List Nat → List Nat
  | [] => [a]
  | b :: r => if a ≤ b then a :: b :: r else b :: ins a r
def sortN : List Nat → List Nat
  | [] => []
  | a :: r => ins a (sortN r)
def groupsM (lots : List (List Nat)) : List (List Nat) := (lots.take (mostM lots)).map sortN
/-! ### values -/
abbrev vi (n : Nat) : V := .int (n : Int)
def AllAt {α β : Type} (R : α → β → Prop) (xs : List α) (ys : List β) : Prop := xs.length = ys.length ∧ ∀ (i : Nat) x y, xs[i]? = some x → ys[i]? = some y → R x y
theorem AllAt.nil {α β : Type} {R : α → β → Prop} : AllAt R [] [] := ⟨rfl, fun i x y h => by simp at h⟩
theorem AllAt.imp {α β : Type} {R S : α → β → Prop} {xs : List α} {ys : List β} (h : AllAt R xs ys) (k : ∀ x y, R x y → S x y) : AllAt S xs ys := ⟨h.1, fun i x y a b => k x y (h.2 i x y a b)⟩
theorem AllAt.snoc {α β : Type} {R : α → β → Prop} {xs : List α} {ys : List β} {x : α} {y : β} (h : AllAt R xs ys) (k : R x y) : AllAt R (xs ++ [x]) (ys ++ [y]) := by
  refine ⟨by simp [h.1], fun i a b ha hb => ?_⟩
  by_cases hi : i < xs.length
  · have hi2 : i < ys.length := by rw [← h.1]; exact hi
    rw [List.getElem?_append_left hi] at ha
    rw [List.getElem?_append_left hi2] at hb
    exact h.2 i a b ha hb
  · by_cases he : i = xs.length
    · subst he
      rw [List.getElem?_append_right (Nat.le_refl _)] at ha
      rw [List.getElem?_append_right (by rw [h.1]; exact Nat.le_refl _), h.1] at hb
      simp at ha hb
      rw [← ha, ← hb]
      exact k
    · have : (xs ++ [x])[i]? = none := by
        rw [List.getElem?_eq_none_iff]
        simp
        omega
      rw [this] at ha
      cases ha
theorem AllAt.get {α β : Type} {R : α → β → Prop} {xs : List α} {ys : List β} (h : AllAt R xs ys) {i : Nat} {y : β} (e : ys[i]? = some y) : ∃ x, xs[i]? = some x ∧ R x y := by
  have hi : i < ys.length := (List.getElem?_eq_some_iff.mp e).1
  have hx : xs[i]? = some (xs[i]'(by rw [h.1]; exact hi)) := List.getElem?_eq_getElem _
  exact ⟨_, hx, h.2 i _ _ hx e⟩
theorem AllAt.get' {α β : Type} {R : α → β → Prop} {xs : List α} {ys : List β} (h : AllAt R xs ys) {i : Nat} {x : α} (e : xs[i]? = some x) : ∃ y, ys[i]? = some y ∧ R x y := by
  have hi : i < xs.length := (List.getElem?_eq_some_iff.mp e).1
  have hy : ys[i]? = some (ys[i]'(by rw [← h.1]; exact hi)) := List.getElem?_eq_getElem _
  exact ⟨_, hy, h.2 i _ _ e hy⟩
theorem AllAt.cons {α β : Type} {R : α → β → Prop} {xs : List α} {ys : List β} {x : α} {y : β} (h : AllAt R xs ys) (k : R x y) : AllAt R (x :: xs) (y :: ys) := by
  refine ⟨by simp [h.1], fun i a b ha hb => ?_⟩
  cases i with
  | zero =>
    simp at ha hb
    rw [← ha, ← hb]
    exact k
  | succ i => exact h.2 i a b (by simpa using ha) (by simpa using hb)
theorem AllAt.set {α β : Type} {R : α → β → Prop} {xs : List α} {ys : List β} {x : α} {y : β} (h : AllAt R xs ys) (i : Nat) (k : R x y) : AllAt R (xs.set i x) (ys.set i y) := by
  refine ⟨by simp [h.1], fun j a b ha hb => ?_⟩
  rw [List.getElem?_set] at ha hb
  by_cases e : i = j
  · subst e
    rw [if_pos rfl] at ha hb
    split at ha
    · split at hb
      · cases ha
        cases hb
        exact k
      · cases hb
    · cases ha
  · rw [if_neg e] at ha hb
    exact h.2 j a b ha hb
/-! ### what stands in the heap -/
/-- a tuple of numbers -/
def TN (H : Hp) (a : Addr) (ns : List Nat) : Prop := H a = some (.tup (ns.map vi))
/-- a tuple of tuples of numbers -/
def TT2 (H : Hp) (a : Addr) (rows : List (List Nat)) : Prop := ∃ as : List Addr, H a = some (.tup (as.map V.ref)) ∧ AllAt (TN H) as rows
/-- a triple -/
def TR (H : Hp) (a : Addr) (t : Nat × Nat × List Nat) : Prop := ∃ e, H a = some (.tup [vi t.1, vi t.2.1, .ref e]) ∧ TN H e t.2.2
def TTr (H : Hp) (a : Addr) (ts : List (Nat × Nat × List Nat)) : Prop := ∃ as : List Addr, H a = some (.tup (as.map V.ref)) ∧ AllAt (TR H) as ts
theorem TN.same {H H' : Hp} {a : Addr} {ns : List Nat} (s : Same H H') (h : TN H a ns) : TN H' a ns := s _ _ h
theorem TT2.same {H H' : Hp} {a : Addr} {rows : List (List Nat)} (s : Same H H') (h : TT2 H a rows) : TT2 H' a rows := by
  obtain ⟨as, e, r⟩ := h
  exact ⟨as, s _ _ e, r.imp fun x y => TN.same s⟩
theorem TR.same {H H' : Hp} {a : Addr} {t : Nat × Nat × List Nat} (s : Same H H') (h : TR H a t) : TR H' a t := by
  obtain ⟨e, h1, h2⟩ := h
  exact ⟨e, s _ _ h1, h2.same s⟩
theorem TTr.same {H H' : Hp} {a : Addr} {ts : List (Nat × Nat × List Nat)} (s : Same H H') (h : TTr H a ts) : TTr H' a ts := by
  obtain ⟨as, e, r⟩ := h
  exact ⟨as, s _ _ e, r.imp fun x y => TR.same s⟩
/-- the attributes of a book -/
def fBook (p q : Addr) : List (Str × V) := [("parents", .ref p), ("bits", .ref q)]
theorem fBook_parents (p q : Addr) : (fBook p q).lookup ("parents" : Str) = some (V.ref p) := rfl
theorem fBook_bits (p q : Addr) : (fBook p q).lookup ("bits" : Str) = some (V.ref q) := rfl
/-- a book; its list of bits is not g -/
def BookAt (K : PySem.W.Frag) (g : Addr) (H : Hp) (b : Addr) (rows : List (List Nat)) : Prop :=
  ∃ dx p q, H b = some (.ins (ga K "Book") dx (fBook p q)) ∧ TT2 H p rows ∧ H q = some (.lst ((runM rows).bits.map vi)) ∧ q ≠ g
theorem BookAt.same {K : PySem.W.Frag} {g : Addr} {H H' : Hp} {b : Addr} {rows : List (List Nat)} (s : Same H H') (h : BookAt K g H b rows) : BookAt K g H' b rows := by
  obtain ⟨dx, p, q, h1, h2, h3, h4⟩ := h
  exact ⟨dx, p, q, s _ _ h1, h2.same s, s _ _ h3, h4⟩
end Lk
set_option Elab.async false
set_option linter.all false
set_option maxRecDepth 100000
set_option maxHeartbeats 4000000
namespace Lk
open PySem PySem.Spec PyProof.Rows L2
open He (ga ma)
/-- all but x is as it was -/
def But (x : Addr) (H H' : Hp) : Prop := ∀ b o, b ≠ x → H b = some o → H' b = some o
theorem But.refl (x : Addr) (H : Hp) : But x H H := fun _ _ _ h => h
theorem But.trans {x : Addr} {H H1 H2 : Hp} (a : But x H H1) (b : But x H1 H2) : But x H H2 := fun c o n h => b c o n (a c o n h)
theorem But.upd {x : Addr} {H : Hp} {o : HO} : But x H (upd H x o) := fun b u n h => by rw [upd_ne n]; exact h
theorem But.new {x y : Addr} {H : Hp} {o : HO} (h : H y = none) : But x H (L2.upd H y o) := fun b u n e => by
  rw [upd_ne (ne_of_none e h)]
  exact e
theorem Same.new {y : Addr} {H : Hp} {o : HO} (h : H y = none) : Same H (L2.upd H y o) := fun b u e => by
  rw [upd_ne (ne_of_none e h)]
  exact e
/-- x is young: not tracked at H -/
theorem But.same {x : Addr} {H H1 H2 : Hp} (n : H x = none) (s : Same H H1) (b : But x H1 H2) : Same H H2 := fun c o h => b c o (ne_of_none h n) (s c o h)
theorem same_upd {x : Addr} {H H1 : Hp} {o : HO} (n : H x = none) (s : Same H H1) : Same H (L2.upd H1 x o) := But.same n s But.upd
theorem map_get {α : Type} {f : α → V} {ns : List α} {i : Nat} {n : α} (h : ns[i]? = some n) : (ns.map f)[i]? = some (f n) := by
  rw [List.getElem?_map, h]
  rfl
theorem snocInd {α : Type} {motive : List α → Prop} (h0 : motive []) (h1 : ∀ l a, motive l → motive (l ++ [a])) (l : List α) : motive l := by
  have h : ∀ r : List α, motive r.reverse := by
    intro r
    induction r with
    | nil => exact h0
    | cons a r ih =>
      rw [List.reverse_cons]
      exact h1 _ _ ih
  have e := h l.reverse
  rw [List.reverse_reverse] at e
  exact e
theorem bits_len (rows : List (List Nat)) : (runM rows).bits.length = rows.length ∧ (runM rows).trip.length = rows.length := by
  induction rows using snocInd with
  | h0 => exact ⟨rfl, rfl⟩
  | h1 rows r ih =>
    rw [runM_snoc]
    unfold nextM
    constructor
    · simp [ih.1]
    · simp [ih.2]
section
variable {P : Program} {w : World} {K : PySem.W.Frag} {mg : Str → Option Value} {base : Heap}
/-! ### books -/
def spParents : Sp := fun vs H Q _ => ∃ (a : Addr) (ns : List Int) (many : Int), vs = [.ref a, .int many] ∧ H a = some (.tup (ns.map V.int)) ∧ ns.length ≤ 1000 ∧ Q (.bl (lotB many (-1) ns && decide (ns.length ≤ 6))) H
theorem ok_are_parents (T : Tx K mg) (F : Fx K) : DefOk P w K mg base CX0 4 (ga K "are_parents") ["thing", "number"] spParents := by
  have D1 := ok_is_lot (P := P) (w := w) (base := base) T F
  refine def0 F.f_are_parents bd_are_parents sc_are_parents (fun vs H Q E h => ?_) (fun cdv A outer s H vs Q E hr h => ?_)
  · obtain ⟨a, ns, many, rfl, _⟩ := h
    rfl
  · obtain ⟨a, ns, many, rfl, ha, hl, k⟩ := h
    obtain ⟨t, g6⟩ := T.i_MOST_PARENTS
    refine ⟨_, pss_one (ps_ret (pe_and (pe_cal D1 hr (by rfl) T.g_is_lot pass0 (pa_cons (pv 0) (pa_cons (pv 1) pa_nil)))
      (pe_one (pe_cmpR op_le (pe_callB call_len (by rfl) T.b_len (by decide +kernel) (pa_cons (pv 0) pa_nil)) (pe_glob (v := .int 6) (by rfl) g6 ⟨t, rfl⟩) (nomark _))))), ?_⟩
    refine ⟨_, rfl, _, rfl, a, ns, many, rfl, ha, _, rfl, ?_⟩
    cases h : lotB many (-1) ns with
    | false =>
      rw [h] at k
      exact iteF k
    | true =>
      rw [h] at k
      refine iteT ⟨_, rfl, _, _, rfl, .inr ⟨_, SqT.of ha, rfl⟩, _, _, rfl, rfl, ?_⟩
      have e : (decide (((ns.map V.int).length : Int) ≤ 6)) = decide (ns.length ≤ 6) := by
        rw [List.length_map]
        apply decide_eq_decide.mpr
        omega
      show Q (V.bl (decide (((ns.map V.int).length : Int) ≤ 6))) H
      rw [e]
      exact k
def spFill (K : PySem.W.Frag) : Sp := fun vs H Q _ => ∃ (x a dx : Addr) (fs : List (Str × V)), vs = [.ref x, .ref a] ∧ H x = some (.ins (ga K "Book") dx fs) ∧ H a = some (.tup []) ∧ fs.length < 900 ∧
  ∀ q H', H q = none → But x H H' → H' x = some (.ins (ga K "Book") dx (putF "bits" (.ref q) (putF "parents" (.ref a) fs))) → H' q = some (.lst []) → Q .non H'
theorem ok_Book_fill (T : Tx K mg) (F : Fx K) : DefOk P w K mg base CX0 1 (ma K (ga K "Book") "fill") ["self", "parents"] (spFill K) := by
  refine def0 F.f_Book_fill bd_Book_fill sc_Book_fill (fun vs H Q E h => ?_) (fun cdv A outer s H vs Q E hr h => ?_)
  · obtain ⟨x, a, dx, fs, rfl, _⟩ := h
    rfl
  · obtain ⟨x, a, dx, fs, rfl, hx, ha, hf, k⟩ := h
    refine ⟨_, pss_cons (ps_fld (pv 0) (pv 1) (by rfl)) (pss_cons (ps_fld (pv 0) (pe_lst pa_nil) (by rfl))
      (pss_one (ps_for PassesOwn.never rfl (pi_enumT (by rfl) T.b_enumerate (pa_cons (pv 1) pa_nil)) (pg_tup (n := 2) rfl (pgs_cons (pg_name (i := 2) sc_Book_fill.nd rfl (Or.inl rfl)) (pgs_cons (pg_name (i := 3) sc_Book_fill.nd rfl (Or.inl rfl)) pgs_nil))) pss_never))), ?_⟩
    have nx : a ≠ x := ne_of ha hx (by intro h; cases h)
    refine ⟨_, rfl, _, rfl, x, _, dx, fs, rfl, hx, T.c_Book, T.n_Book_parents, by omega, ?_⟩
    refine ⟨by decide, fun q hq => ?_⟩
    have nq : q ≠ x := by
      intro e
      rw [e, upd_same] at hq
      cases hq
    rw [upd_ne nq] at hq
    have hx2 : upd (upd H x (.ins (ga K "Book") dx (putF "parents" (V.ref a) fs))) q (.lst []) x = some (.ins (ga K "Book") dx (putF "parents" (V.ref a) fs)) := by
      rw [upd_ne (Ne.symm nq), upd_same]
    refine ⟨_, rfl, x, _, dx, _, rfl, hx2, T.c_Book, T.n_Book_bits, Nat.lt_of_le_of_lt (length_putF _ _ _) (by omega), ?_⟩
    have naq : a ≠ q := ne_of_none ha hq
    have h3 : upd (upd (upd H x (.ins (ga K "Book") dx (putF "parents" (V.ref a) fs))) q (.lst [])) x (.ins (ga K "Book") dx (putF "bits" (V.ref q) (putF "parents" (V.ref a) fs))) a = some (.tup []) := by
      rw [upd_ne nx, upd_ne naq, upd_ne nx]
      exact ha
    refine ⟨_, rfl, a, [], rfl, .of h3, for_enumT0 (.of h3) ?_⟩
    · refine k q _ hq ?_ upd_same ?_
      · exact (But.upd.trans (But.new (by rw [upd_ne nq]; exact hq))).trans But.upd
      · rw [upd_ne nq, upd_same]
end
end Lk
set_option Elab.async false
set_option linter.all false
set_option maxRecDepth 100000
set_option maxHeartbeats 4000000
namespace Lk
open PySem PySem.Spec PyProof.Rows L2
open He (ga ma)
section
variable {P : Program} {w : World} {K : PySem.W.Frag} {mg : Str → Option Value} {base : Heap}
def spBookInit (K : PySem.W.Frag) : Sp := fun vs H Q _ => ∃ (x a dx : Addr), vs = [.ref x, .ref a] ∧ H x = some (.ins (ga K "Book") dx []) ∧ H a = some (.tup []) ∧
  ∀ q H', H q = none → But x H H' → H' x = some (.ins (ga K "Book") dx (fBook a q)) → H' q = some (.lst []) → Q .non H'
theorem ok_Book_init (T : Tx K mg) (F : Fx K) : DefOk P w K mg base CX0 2 (ma K (ga K "Book") "__init__") ["self", "parents"] (spBookInit K) := by
  have D1 := ok_Book_fill (P := P) (w := w) (base := base) T F
  refine def0 F.f_Book_init bd_Book_init sc_Book_init (fun vs H Q E h => ?_) (fun cdv A outer s H vs Q E hr h => ?_)
  · obtain ⟨x, a, dx, rfl, _⟩ := h
    rfl
  · obtain ⟨x, a, dx, rfl, hx, ha, k⟩ := h
    obtain ⟨t, g6⟩ := T.i_MOST_KINDS
    refine ⟨_, pss_cons (ps_if (pw_or (pt_not (pt_val (pe_callB call_isi (by rfl) T.b_isinstance (by decide +kernel) (pa_cons (pv 1) (pa_cons (pe_bltn (v := .ty "tuple") (by rfl) T.b_tuple (by decide +kernel) rfl) pa_nil)))))
        (pw_or1 (pt_cmpR op_gt (pe_callB call_len (by rfl) T.b_len (by decide +kernel) (pa_cons (pv 1) pa_nil)) (pe_glob (v := .int 400) (by rfl) g6 ⟨t, rfl⟩) (nomark _)))).pt pss_never pss_nil)
      (pss_cons (ps_for PassesOwn.never rfl (pi_enumT (by rfl) T.b_enumerate (pa_cons (pv 1) pa_nil)) (pg_tup (n := 2) rfl (pgs_cons (pg_name (i := 2) sc_Book_init.nd rfl (Or.inl rfl)) (pgs_cons (pg_name (i := 3) sc_Book_init.nd rfl (Or.inl rfl)) pgs_nil))) pss_never)
      (pss_one (ps_expr (pe_met (pv 0) T.c_Book T.m_Book_fill D1 hr pass0 (pa_cons (pv 1) pa_nil))))), ?_⟩
    refine ⟨_, rfl, _, _, _, _, true, rfl, .ty "tuple", .base (.tup ha), kit_ty (by decide +kernel), _, rfl, iteF ?_⟩
    refine ⟨_, rfl, _, _, rfl, .inr ⟨_, SqT.of ha, rfl⟩, _, _, rfl, rfl, _, rfl, ?_⟩
    refine iteF ?_
    refine ⟨_, rfl, a, [], rfl, .of ha, for_enumT0 (.of ha) ?_⟩
    refine ⟨_, rfl, x, dx, [], rfl, hx, rfl, _, rfl, ?_⟩
    exact ⟨x, a, dx, [], rfl, hx, ha, by decide, fun q H' h1 h2 h3 h4 => k q H' h1 h2 h3 h4⟩
/-- Book(()) : the tuple there is at a0 -/
theorem mk_book {H H1 : Hp} {x dx a : Addr} (hx : H x = none) (hdx : H dx = none) (hn : dx ≠ x) (b : But x (upd (upd H dx (.own x)) x (.ins (ga K "Book") dx [])) H1) : Same H H1 := by
  refine But.same hx ?_ b
  exact (Same.new hdx).trans (Same.new (by rw [upd_ne (Ne.symm hn)]; exact hx))
def spBookOf (K : PySem.W.Frag) : Sp := fun vs H Q _ => ∃ (a g : Addr) (o : HO), vs = [.ref a] ∧ H a = some (.tup []) ∧ H g = some o ∧ ∀ b H', Same H H' → BookAt K g H' b [] → Q (.ref b) H'
theorem ok_book_of (T : Tx K mg) (F : Fx K) : DefOk P w K mg base CX0 4 (ga K "book_of") ["parents"] (spBookOf K) := by
  have D1 := ok_Book_init (P := P) (w := w) (base := base) T F
  have D2 := ok_Book_fill (P := P) (w := w) (base := base) T F
  refine def0 F.f_book_of bd_book_of sc_book_of (fun vs H Q E h => ?_) (fun cdv A outer s H vs Q E hr h => ?_)
  · obtain ⟨a, g, o, rfl, _⟩ := h
    rfl
  · obtain ⟨a, g, o, rfl, ha, hg, k⟩ := h
    refine ⟨_, pss_cons (ps_set (i := 1) sc_book_of.nd rfl (Or.inl rfl) (pe_mak T.k_Book D1 hr (by rfl) T.g_Book pass0 (pa_cons (pe_tup pa_nil) pa_nil)))
      (pss_cons (ps_expr (pe_met (pv 1) T.c_Book T.m_Book_fill (D2.mono (by decide : 1 ≤ 3)) hr pass0 (pa_cons (pe_tupleOf (by rfl) T.b_tuple (pv 0)) pa_nil)))
      (pss_one (ps_ret (pv 1)))), ?_⟩
    refine ⟨by decide, fun z hz x dx hx hdx hn => ?_⟩
    refine ⟨x, z, dx, rfl, upd_same, ?_, fun q H1 hq hb h1 h2 => ⟨rfl, ?_⟩⟩
    · have nz : z ≠ x := ne_of_none upd_same hx
      have nz2 : z ≠ dx := ne_of_none upd_same hdx
      rw [upd_ne nz, upd_ne nz2, upd_same]
    · have s1 : Same H H1 := (Same.new hz).trans (mk_book (K := K) (a := z) hx hdx hn hb)
      refine ⟨_, rfl, x, dx, _, rfl, h1, rfl, _, rfl, .inr ⟨a, [], rfl, .of (s1 _ _ ha), ?_⟩⟩
      refine ⟨x, a, dx, _, rfl, h1, s1 _ _ ha, by show 2 < 900; decide, fun q2 H2 hq2 hb2 h3 h4 => ?_⟩
      have s2 : Same H H2 := But.same (Same.free (Same.new hz) hx) s1 hb2
      refine ⟨_, rfl, k x H2 s2 ⟨dx, a, q2, h3, ⟨[], s2 _ _ ha, .nil⟩, h4, ?_⟩⟩
      exact Ne.symm (ne_of_none (s1 _ _ hg) hq2)
def spManyOf (K : PySem.W.Frag) : Sp := fun vs H Q _ => ∃ (b g : Addr) (rows : List (List Nat)), vs = [.ref b] ∧ BookAt K g H b rows ∧ Q (vi rows.length) H
theorem ok_many_of (T : Tx K mg) (F : Fx K) : DefOk P w K mg base CX0 1 (ga K "many_of") ["book"] (spManyOf K) := by
  refine def0 F.f_many_of bd_many_of sc_many_of (fun vs H Q E h => ?_) (fun cdv A outer s H vs Q E hr h => ?_)
  · obtain ⟨b, g, rows, rfl, _⟩ := h
    rfl
  · obtain ⟨b, g, rows, rfl, ⟨dx, p, q, h1, ⟨as, h2, h2'⟩, h3, h4⟩, k⟩ := h
    refine ⟨_, pss_one (ps_ret (pe_callB call_len (by rfl) T.b_len (by decide +kernel) (pa_cons (pe_fld (pv 0) (by rfl)) pa_nil))), ?_⟩
    refine ⟨_, rfl, b, _, dx, _, _, rfl, h1, T.c_Book, T.n_Book_parents, fBook_parents p q, _, _, rfl, .inr ⟨_, SqT.of h2, rfl⟩, ?_⟩
    rw [List.length_map, h2'.1]
    exact k
theorem oneM_eq (bits : List Nat) {x p n : Nat} (h : bits[x]? = some n) : decide (V.int (Builtin.bitAnd ((n : Int) / 2 ^ ((p : Int)).toNat) 1) = V.int 1) = oneM bits x p := by
  have e : Builtin.bitAnd ((n : Int) / 2 ^ ((p : Int)).toNat) 1 = (n : Int) / 2 ^ p % 2 := by
    have z := Bits.bit_at (x := (n : Int)) p
    rw [Int.fdiv_eq_ediv_of_nonneg _ (two_pow_nn p)] at z
    rw [Int.toNat_natCast]
    exact z
  rw [e]
  unfold oneM
  rw [List.getD_eq_getElem?_getD, h, Option.getD_some, Nat.testBit_eq_decide_div_mod_eq]
  apply decide_eq_decide.mpr
  rw [V.int.injEq]
  have e2 : ((n : Int) / 2 ^ p % 2) = ((n / 2 ^ p % 2 : Nat) : Int) := by
    rw [Int.natCast_emod, Int.natCast_ediv, Int.natCast_pow]
    rfl
  rw [e2]
  omega
def spIsOne (K : PySem.W.Frag) : Sp := fun vs H Q _ => ∃ (b g : Addr) (rows : List (List Nat)) (x p : Nat), vs = [.ref b, vi x, vi p] ∧ BookAt K g H b rows ∧ x < rows.length ∧ Q (.bl (oneM (runM rows).bits x p)) H
theorem ok_is_one (T : Tx K mg) (F : Fx K) : DefOk P w K mg base CX0 1 (ga K "is_one") ["book", "x", "p"] (spIsOne K) := by
  refine def0 F.f_is_one bd_is_one sc_is_one (fun vs H Q E h => ?_) (fun cdv A outer s H vs Q E hr h => ?_)
  · obtain ⟨b, g, rows, x, p, rfl, _⟩ := h
    rfl
  · obtain ⟨b, g, rows, x, p, rfl, ⟨dx, pp, q, h1, h2, h3, h4⟩, hx, k⟩ := h
    refine ⟨_, pss_one (ps_ret (pe_cmpR op_eq (pe_op op_and (pe_op op_shr (pe_ix ix_list (pe_fld (pv 0) (by rfl)) (pv 1) (fun _ _ => rfl)) (pv 2)) pe_int) pe_int (nomark _))), ?_⟩
    have hl : x < (runM rows).bits.length := by rw [(bits_len rows).1]; exact hx
    have hn : (runM rows).bits[x]? = some (runM rows).bits[x] := List.getElem?_eq_getElem hl
    refine ⟨_, rfl, b, _, dx, _, _, rfl, h1, T.c_Book, T.n_Book_bits, fBook_bits pp q, _, rfl, q, _, _, _, rfl, rfl, .of h3, atI_nat (map_get hn), _, rfl, _, _, rfl, rfl, Int.natCast_nonneg _, _, _, rfl, rfl, rfl, ?_⟩
    have e := oneM_eq (runM rows).bits (p := p) hn
    rw [← e] at k
    exact k
end
end Lk
set_option Elab.async false
set_option linter.all false
set_option maxRecDepth 100000
set_option maxHeartbeats 4000000
namespace Lk
open PySem PySem.Spec PyProof.Rows L2
open He (ga ma)
section
variable {P : Program} {w : World} {K : PySem.W.Frag} {mg : Str → Option Value} {base : Heap}
theorem take_snoc {α : Type} {l : List α} {i : Nat} {x : α} (h : l[i]? = some x) : l.take (i + 1) = l.take i ++ [x] := by
  rw [List.take_add_one, h]
  rfl
theorem bitOr_nat (m n : Nat) : Builtin.bitOr (m : Int) (n : Int) = ((m ||| n : Nat) : Int) := by
  rw [Bits.bitOr_pp (Int.natCast_nonneg _) (Int.natCast_nonneg _), Int.toNat_natCast, Int.toNat_natCast]
theorem bitNew_snoc (bits l : List Nat) (n : Nat) : bitNew bits (l ++ [n]) = bitNew bits l ||| bits.getD n 0 := by
  unfold bitNew
  rw [List.foldl_append]
  rfl
theorem l1 : 1 ≤ sizeLine := by decide
theorem l2 : 2 ≤ sizeLine := by decide
theorem l3 : 3 ≤ sizeLine := by decide
theorem l4 : 4 ≤ sizeLine := by decide
theorem l0 : 0 ≤ sizeLine := Nat.zero_le _
theorem le_size {n : Nat} (h : n ≤ 1000) : n ≤ sizeLine := Nat.le_of_lt (small1000 h)
def spGrown (K : PySem.W.Frag) : Sp := fun vs H Q _ => ∃ (b a g : Addr) (o : HO) (rows : List (List Nat)) (r : List Nat), vs = [.ref b, .ref a] ∧ BookAt K g H b rows ∧ TN H a r ∧ (∀ p ∈ r, p < rows.length) ∧ rows.length ≤ 100 ∧ H g = some o ∧
  ∀ b' H', Same H H' → BookAt K g H' b' (rows ++ [r]) → Q (.ref b') H'
theorem ok_grown (T : Tx K mg) (F : Fx K) : DefOk P w K mg base CX0 4 (ga K "grown") ["book", "parents"] (spGrown K) := by
  have D1 := ok_Book_init (P := P) (w := w) (base := base) T F
  refine def0 F.f_grown bd_grown sc_grown (fun vs H Q E h => ?_) (fun cdv A outer s H vs Q E hr h => ?_)
  · obtain ⟨b, a, g, o, rows, r, rfl, _⟩ := h
    rfl
  · obtain ⟨b, a, g, o, rows, r, rfl, B, ha, hp, hl, hg, k⟩ := h
    refine ⟨_, pss_cons (ps_set (i := 2) sc_grown.nd rfl (Or.inl rfl) (pe_mak T.k_Book D1 hr (by rfl) T.g_Book pass0 (pa_cons (pe_tup pa_nil) pa_nil)))
      (pss_cons (ps_set (i := 3) sc_grown.nd rfl (Or.inl rfl) (pe_op op_shl pe_int (pe_callB call_len (by rfl) T.b_len (by decide +kernel) (pa_cons (pe_fld (pv 0) (by rfl)) pa_nil))))
      (pss_cons (ps_for PassesOwn.never rfl (pi_tup (pv 1)) (pg_name (i := 4) sc_grown.nd rfl (Or.inl rfl))
        (pss_one (ps_aug (i := 3) sc_grown.nd rfl (Or.inl rfl) (pe_ix ix_list (pe_fld (pv 0) (by rfl)) (pv 4) (fun _ _ => rfl)) iop_or)))
      (pss_cons (ps_fld (pv 2) (pe_op op_catA (pe_fld (pv 0) (by rfl)) (pe_tup (pa_cons (pv 1) pa_nil))) (by rfl))
      (pss_cons (ps_fld (pv 2) (pe_op op_cat (pe_fld (pv 0) (by rfl)) (pe_lst (pa_cons (pv 3) pa_nil))) (by rfl))
      (pss_one (ps_ret (pv 2))))))), ?_⟩
    refine ⟨by decide, fun z hz x dx hx hdx hn => ?_⟩
    refine ⟨x, z, dx, rfl, upd_same, ?_, fun q0 H1 hq hb h1 h2 => ⟨rfl, ?_⟩⟩
    · have nz : z ≠ x := ne_of_none upd_same hx
      have nz2 : z ≠ dx := ne_of_none upd_same hdx
      rw [upd_ne nz, upd_ne nz2, upd_same]
    · have hx0 : H x = none := Same.free (Same.new hz) hx
      have s1 : Same H H1 := (Same.new hz).trans (mk_book (K := K) (a := z) hx hdx hn hb)
      obtain ⟨dxb, pb, qb, f1, ⟨as, f2, e3⟩, f4, f5⟩ := B
      have e1 := s1 _ _ f1
      have e2 := s1 _ _ f2
      have e4 := s1 _ _ f4
      have ha1 := ha.same s1
      have lb : (runM rows).bits.length = rows.length := (bits_len rows).1
      refine ⟨_, rfl, b, _, dxb, _, _, rfl, e1, T.c_Book, T.n_Book_parents, fBook_parents pb qb, _, _, rfl, .inr ⟨_, SqT.of e2, rfl⟩, _, _, rfl, rfl, ⟨Int.natCast_nonneg _, ?_, by decide⟩, ?_⟩
      · rw [List.length_map, e3.1]
        have : (rows.length : Int) ≤ 100 := by exact_mod_cast hl
        show (rows.length : Int) ≤ 1000000
        omega
      have e0 : (1 : Int) * 2 ^ (((as.map V.ref).length : Nat) : Int).toNat = ((2 ^ (runM rows).bits.length : Nat) : Int) := by
        rw [List.length_map, e3.1, Int.toNat_natCast, lb, Int.one_mul, Int.natCast_pow]
        rfl
      show tSeq _ _ _ [some (V.ref b), some (V.ref a), some (V.ref x), some (V.int ((1 : Int) * 2 ^ (((as.map V.ref).length : Nat) : Int).toNat)), none] H1
      rw [e0]
      refine ⟨_, rfl, a, rfl, ⟨_, SqT.of ha1⟩, for_tup (K := K) (a := a) (xs := r.map vi) (fun i σ H' => ∃ v : Option V, σ = [some (.ref b), some (.ref a), some (.ref x), some (vi (bitNew (runM rows).bits (r.take i))), v] ∧ H1 = H')
        ⟨none, rfl, rfl⟩ (fun i σ H' _ ⟨_, _, e⟩ => e ▸ SqT.of ha1) ?_ ?_⟩
      · rintro i y σ H' hi ⟨v, rfl, rfl⟩
        obtain ⟨n, hn1, rfl⟩ := get_map hi
        have hlt : n < (runM rows).bits.length := by rw [lb]; exact hp n (List.mem_of_getElem? hn1)
        have hbn : (runM rows).bits[n]? = some (runM rows).bits[n] := List.getElem?_eq_getElem hlt
        refine ⟨_, rfl, _, rfl, b, _, dxb, _, _, rfl, e1, T.c_Book, T.n_Book_bits, fBook_bits pb qb, _, rfl, qb, _, _, _, rfl, rfl, .of e4, atI_nat (map_get hbn), _, _, rfl, rfl, some (vi n), ?_, rfl⟩
        rw [take_snoc hn1, bitNew_snoc, List.getD_eq_getElem?_getD, hbn]
        show [some (V.ref b), some (V.ref a), some (V.ref x), some (V.int (Builtin.bitOr ((bitNew (runM rows).bits (r.take i) : Nat) : Int) (((runM rows).bits[n] : Nat) : Int))), some (vi n)] = _
        rw [bitOr_nat]
        rfl
      · rintro σ H' ⟨v, rfl, rfl⟩
        rw [List.length_map, List.take_length]
        refine ⟨_, rfl, b, _, dxb, _, _, rfl, e1, T.c_Book, T.n_Book_parents, fBook_parents pb qb, _, rfl, l1, fun t ht => ?_⟩
        -- the tail, once the parents' tuple p' stands
        have tail : ∀ (p' : Addr) (H2 : Hp), Same H1 H2 → H2 p' = some (.tup ((as ++ [a]).map V.ref)) → H2 x = some (.ins (ga K "Book") dx (fBook z q0)) → ∀ H3, H3 = upd H2 x (.ins (ga K "Book") dx (putF "parents" (V.ref p') (fBook z q0))) →
            (tSeq (sFld K (tVar 2) (tOp rCat (tFld K (tVar 0) "bits") (tLst (tCons (tVar 3) tNil))) "bits") (tRet (tVar 2))) { nx := fun _ H' => Q .non H', rt := Q } [some (.ref b), some (.ref a), some (.ref x), some (vi (bitNew (runM rows).bits r)), v] H3 := by
          intro p' H2 s2 hp' hx2 H3 eH
          have s3 : Same H H3 := by rw [eH]; exact same_upd hx0 (s1.trans s2)
          have b3 : But x H1 H3 := by rw [eH]; exact (fun c o n h => by rw [upd_ne n]; exact s2 c o h)
          have nb : b ≠ x := ne_of_none f1 hx0
          have nq : qb ≠ x := ne_of e4 h1 (by intro h; cases h)
          have np : p' ≠ x := ne_of hp' hx2 (by intro h; cases h)
          have e4' : H3 qb = some (.lst ((runM rows).bits.map vi)) := b3 _ _ nq e4
          refine ⟨_, rfl, b, _, dxb, _, _, rfl, b3 _ _ nb e1, T.c_Book, T.n_Book_bits, fBook_bits pb qb, _, rfl, l1, fun l hl1 => ?_⟩
          refine ⟨qb, l, _, [vi (bitNew (runM rows).bits r)], rfl, rfl, Same.new hl1 _ _ e4', upd_same, ?_, fun m hm => ?_⟩
          · rw [List.length_map, lb]
            show rows.length + 1 ≤ sizeLine
            exact Nat.le_trans (Nat.succ_le_succ hl) (by decide)
          · have hx3 : H3 x = some (.ins (ga K "Book") dx (putF "parents" (V.ref p') (fBook z q0))) := by rw [eH, upd_same]
            have s4 : Same H3 (upd (upd H3 l (.lst [vi (bitNew (runM rows).bits r)])) m (.lst ((runM rows).bits.map vi ++ [vi (bitNew (runM rows).bits r)]))) := (Same.new hl1).trans (Same.new hm)
            refine ⟨_, rfl, x, _, dx, _, rfl, s4 _ _ hx3, T.c_Book, T.n_Book_bits, by show 2 < 1000; decide, _, rfl, ?_⟩
            have nm : m ≠ x := Ne.symm (ne_of_none ((Same.new hl1) _ _ hx3) hm)
            refine k x _ (same_upd hx0 (s3.trans s4)) ⟨dx, p', m, upd_same, ⟨as ++ [a], ?_, ?_⟩, ?_, ?_⟩
            · rw [upd_ne np]
              refine s4 _ _ ?_
              rw [eH, upd_ne np]
              exact hp'
            · exact (e3.imp fun u v hv => TN.same (same_upd hx0 (s3.trans s4)) hv).snoc (ha.same (same_upd hx0 (s3.trans s4)))
            · rw [upd_ne nm, upd_same, runM_snoc]
              unfold nextM
              rw [List.map_append]
              rfl
            · exact Ne.symm (ne_of_none (((s3.trans (Same.new hl1)) _ _ hg)) hm)
        have e2x : H1 x = some (.ins (ga K "Book") dx (fBook z q0)) := h1
        have t1 : Same H1 (upd H1 t (.tup [.ref a])) := Same.new ht
        refine ⟨pb, t, as.map V.ref, [.ref a], rfl, rfl, .of (t1 _ _ e2), .of upd_same, ?_, fun h0 => ?_, fun h0 h00 => ?_, fun h0 h00 c hc => ?_⟩
        · rw [List.length_map, e3.1]
          exact Nat.le_trans (Nat.succ_le_succ hl) (by decide)
        · refine ⟨_, rfl, x, _, dx, _, rfl, t1 _ _ e2x, T.c_Book, T.n_Book_parents, by show 2 < 1000; decide, ?_⟩
          refine tail t _ t1 ?_ (t1 _ _ e2x) _ rfl
          have : as = [] := by simpa using h0
          rw [this]
          exact upd_same
        · cases h00
        · have t2 : Same H1 (upd (upd H1 t (.tup [.ref a])) c (.tup (as.map V.ref ++ [.ref a]))) := t1.trans (Same.new hc)
          refine ⟨_, rfl, x, _, dx, _, rfl, t2 _ _ e2x, T.c_Book, T.n_Book_parents, by show 2 < 1000; decide, ?_⟩
          refine tail c _ t2 ?_ (t2 _ _ e2x) _ rfl
          rw [upd_same, List.map_append]
          rfl
end
end Lk
set_option Elab.async false
set_option linter.all false
set_option maxRecDepth 100000
set_option maxHeartbeats 4000000
namespace Lk
open PySem PySem.Spec PyProof.Rows L2
open He (ga ma)
section
variable {P : Program} {w : World} {K : PySem.W.Frag} {mg : Str → Option Value} {base : Heap}
/-! ### groups: what stands in the heap -/
def LN (H : Hp) (a : Addr) (ns : List Nat) : Prop := H a = some (.lst (ns.map vi))
theorem LN.same {H H' : Hp} {a : Addr} {ns : List Nat} (s : Same H H') (h : LN H a ns) : LN H' a ns := s _ _ h
def fGr (lo hd : Addr) : List (Str × V) := [("lots", .ref lo), ("held", .ref hd)]
theorem fGr_lots (p q : Addr) : (fGr p q).lookup ("lots" : Str) = some (V.ref p) := rfl
theorem fGr_held (p q : Addr) : (fGr p q).lookup ("held" : Str) = some (V.ref q) := rfl
def Inj (l : List Addr) : Prop := ∀ (i j : Nat) a, l[i]? = some a → l[j]? = some a → i = j
theorem Inj.nil : Inj [] := fun i j a h => by simp at h
theorem Inj.snoc {l : List Addr} {D : Addr} (h : Inj l) (n : D ∉ l) : Inj (l ++ [D]) := by
  intro i j a hi hj
  have key : ∀ i, (l ++ [D])[i]? = some a → (i < l.length ∧ l[i]? = some a) ∨ (i = l.length ∧ a = D) := by
    intro i hi
    by_cases h1 : i < l.length
    · rw [List.getElem?_append_left h1] at hi
      exact .inl ⟨h1, hi⟩
    · rw [List.getElem?_append_right (by omega)] at hi
      by_cases h2 : i - l.length = 0
      · rw [h2] at hi
        simp at hi
        exact .inr ⟨by omega, hi.symm⟩
      · rw [List.getElem?_eq_none (by simp; omega)] at hi
        cases hi
  rcases key i hi with ⟨a1, b1⟩ | ⟨a1, b1⟩ <;> rcases key j hj with ⟨a2, b2⟩ | ⟨a2, b2⟩
  · exact h i j a b1 b2
  · subst b2
    exact absurd (List.mem_of_getElem? b1) n
  · subst b1
    exact absurd (List.mem_of_getElem? b2) n
  · omega
theorem Inj.set {l : List Addr} {D : Addr} {k : Nat} (h : Inj l) (n : D ∉ l) : Inj (l.set k D) := by
  intro i j a hi hj
  have key : ∀ i, (l.set k D)[i]? = some a → (i ≠ k ∧ l[i]? = some a) ∨ (i = k ∧ a = D) := by
    intro i hi
    rw [List.getElem?_set] at hi
    split at hi
    · split at hi
      · cases hi
        exact .inr ⟨by omega, rfl⟩
      · cases hi
    · exact .inl ⟨by omega, hi⟩
  rcases key i hi with ⟨a1, b1⟩ | ⟨a1, b1⟩ <;> rcases key j hj with ⟨a2, b2⟩ | ⟨a2, b2⟩
  · exact h i j a b1 b2
  · subst b2
    exact absurd (List.mem_of_getElem? b1) n
  · subst b1
    exact absurd (List.mem_of_getElem? b2) n
  · omega
theorem mem_set_or {l : List Addr} {D a : Addr} {k : Nat} (h : a ∈ l.set k D) : a ∈ l ∨ a = D := List.mem_or_eq_of_mem_set h
structure GrX (K : PySem.W.Frag) (H : Hp) (z dx lo hd : Addr) (las has : List Addr) (lots held : List (List Nat)) : Prop where
  hz : H z = some (.ins (ga K "Groups") dx (fGr lo hd))
  hlo : H lo = some (.lst (las.map V.ref))
  hls : AllAt (LN H) las lots
  hhd : H hd = some (.lst (has.map V.ref))
  hhs : AllAt (LN H) has held
  il : Inj las
  ih : Inj has
  dj : ∀ a ∈ las, a ∉ has
  nlo : lo ≠ hd
  nl : ∀ a ∈ las, a ≠ lo ∧ a ≠ hd
  nh : ∀ a ∈ has, a ≠ lo ∧ a ≠ hd
theorem AllAt.mem {α β : Type} {R : α → β → Prop} {xs : List α} {ys : List β} (h : AllAt R xs ys) {x : α} (hx : x ∈ xs) : ∃ y, R x y := by
  obtain ⟨i, hi⟩ := List.getElem?_of_mem hx
  obtain ⟨y, _, r⟩ := h.get' hi
  exact ⟨y, r⟩
theorem AllAt.impM {α β : Type} {R S : α → β → Prop} {xs : List α} {ys : List β} (h : AllAt R xs ys) (k : ∀ x y, x ∈ xs → R x y → S x y) : AllAt S xs ys := ⟨h.1, fun i x y a b => k x y (List.mem_of_getElem? a) (h.2 i x y a b)⟩
section
variable {H H' : Hp} {z dx lo hd D : Addr} {las has : List Addr} {lots held : List (List Nat)}
theorem GrX.same (s : Same H H') (g : GrX K H z dx lo hd las has lots held) : GrX K H' z dx lo hd las has lots held :=
  ⟨s _ _ g.hz, s _ _ g.hlo, g.hls.imp fun _ _ => LN.same s, s _ _ g.hhd, g.hhs.imp fun _ _ => LN.same s, g.il, g.ih, g.dj, g.nlo, g.nl, g.nh⟩
theorem GrX.fresh (g : GrX K H z dx lo hd las has lots held) (h : H D = none) : D ≠ z ∧ D ≠ lo ∧ D ≠ hd ∧ D ∉ las ∧ D ∉ has := by
  refine ⟨(ne_of_none g.hz h).symm, (ne_of_none g.hlo h).symm, (ne_of_none g.hhd h).symm, fun m => ?_, fun m => ?_⟩
  · obtain ⟨y, r⟩ := g.hls.mem m
    exact ne_of_none r h rfl
  · obtain ⟨y, r⟩ := g.hhs.mem m
    exact ne_of_none r h rfl
theorem GrX.zl (g : GrX K H z dx lo hd las has lots held) : z ≠ lo ∧ z ≠ hd ∧ (∀ a ∈ las, a ≠ z) ∧ ∀ a ∈ has, a ≠ z := by
  refine ⟨ne_of g.hz g.hlo (by intro h; cases h), ne_of g.hz g.hhd (by intro h; cases h), fun a m => ?_, fun a m => ?_⟩
  · obtain ⟨y, r⟩ := g.hls.mem m
    exact ne_of r g.hz (by intro h; cases h)
  · obtain ⟨y, r⟩ := g.hhs.mem m
    exact ne_of r g.hz (by intro h; cases h)
/-- the list of lots is changed: a place set to a list D that is not yet among them -/
theorem GrX.setLot (g : GrX K H z dx lo hd las has lots held) {k : Nat} {ns : List Nat} (hD : LN H D ns) (h1 : D ≠ lo) (h2 : D ≠ hd) (h3 : D ∉ las) (h4 : D ∉ has) :
    GrX K (upd H lo (.lst ((las.set k D).map V.ref))) z dx lo hd (las.set k D) has (lots.set k ns) held := by
  have zl := g.zl
  refine ⟨by rw [upd_ne zl.1]; exact g.hz, upd_same, ?_, by rw [upd_ne g.nlo.symm]; exact g.hhd, g.hhs.impM fun a y m r => ?_, g.il.set h3, g.ih, fun a m => ?_, g.nlo, fun a m => ?_, g.nh⟩
  · have e : AllAt (LN (upd H lo (.lst ((las.set k D).map V.ref)))) las lots := g.hls.impM fun a y m r => by
      show upd _ _ _ _ = _
      rw [upd_ne (g.nl a m).1]
      exact r
    refine e.set k ?_
    show upd _ _ _ _ = _
    rw [upd_ne h1]
    exact hD
  · show upd _ _ _ _ = _
    rw [upd_ne (g.nh a m).1]
    exact r
  · rcases mem_set_or m with m | rfl
    · exact g.dj a m
    · exact h4
  · rcases mem_set_or m with m | rfl
    · exact g.nl a m
    · exact ⟨h1, h2⟩
theorem GrX.addLot (g : GrX K H z dx lo hd las has lots held) {ns : List Nat} (hD : LN H D ns) (h1 : D ≠ lo) (h2 : D ≠ hd) (h3 : D ∉ las) (h4 : D ∉ has) :
    GrX K (upd H lo (.lst ((las ++ [D]).map V.ref))) z dx lo hd (las ++ [D]) has (lots ++ [ns]) held := by
  have zl := g.zl
  refine ⟨by rw [upd_ne zl.1]; exact g.hz, upd_same, ?_, by rw [upd_ne g.nlo.symm]; exact g.hhd, g.hhs.impM fun a y m r => ?_, g.il.snoc h3, g.ih, fun a m => ?_, g.nlo, fun a m => ?_, g.nh⟩
  · have e : AllAt (LN (upd H lo (.lst ((las ++ [D]).map V.ref)))) las lots := g.hls.impM fun a y m r => by
      show upd _ _ _ _ = _
      rw [upd_ne (g.nl a m).1]
      exact r
    refine e.snoc ?_
    show upd _ _ _ _ = _
    rw [upd_ne h1]
    exact hD
  · show upd _ _ _ _ = _
    rw [upd_ne (g.nh a m).1]
    exact r
  · rcases List.mem_append.mp m with m | m
    · exact g.dj a m
    · rw [List.mem_singleton.mp m]
      exact h4
  · rcases List.mem_append.mp m with m | m
    · exact g.nl a m
    · rw [List.mem_singleton.mp m]
      exact ⟨h1, h2⟩
theorem GrX.addHeld (g : GrX K H z dx lo hd las has lots held) {ns : List Nat} (hD : LN H D ns) (h1 : D ≠ lo) (h2 : D ≠ hd) (h3 : D ∉ las) (h4 : D ∉ has) :
    GrX K (upd H hd (.lst ((has ++ [D]).map V.ref))) z dx lo hd las (has ++ [D]) lots (held ++ [ns]) := by
  have zl := g.zl
  refine ⟨by rw [upd_ne zl.2.1]; exact g.hz, by rw [upd_ne g.nlo]; exact g.hlo, g.hls.impM fun a y m r => ?_, upd_same, ?_, g.il, g.ih.snoc h4, fun a m m2 => ?_, g.nlo, g.nl, fun a m => ?_⟩
  · show upd _ _ _ _ = _
    rw [upd_ne (g.nl a m).2]
    exact r
  · have e : AllAt (LN (upd H hd (.lst ((has ++ [D]).map V.ref)))) has held := g.hhs.impM fun a y m r => by
      show upd _ _ _ _ = _
      rw [upd_ne (g.nh a m).2]
      exact r
    refine e.snoc ?_
    show upd _ _ _ _ = _
    rw [upd_ne h2]
    exact hD
  · rcases List.mem_append.mp m2 with m2 | m2
    · exact g.dj a m m2
    · rw [List.mem_singleton.mp m2] at m
      exact h3 m
  · rcases List.mem_append.mp m with m | m
    · exact g.nh a m
    · rw [List.mem_singleton.mp m]
      exact ⟨h1, h2⟩
/-- one list at a place is written -/
theorem AllAt.write {as : List Addr} {ls : List (List Nat)} (e : AllAt (LN H) as ls) (ij : Inj as) {k : Nat} {a : Addr} (ha : as[k]? = some a) (ns : List Nat) : AllAt (LN (upd H a (.lst (ns.map vi)))) as (ls.set k ns) := by
  refine ⟨by rw [List.length_set]; exact e.1, fun i x y hx hy => ?_⟩
  rw [List.getElem?_set] at hy
  by_cases h : k = i
  · subst h
    rw [hx] at ha
    cases ha
    rw [if_pos rfl] at hy
    split at hy
    · cases hy
      exact upd_same
    · cases hy
  · rw [if_neg h] at hy
    show upd _ _ _ _ = _
    rw [upd_ne (by intro c; subst c; exact h (ij k i x ha hx))]
    exact e.2 i x y hx hy
theorem GrX.inLot (g : GrX K H z dx lo hd las has lots held) {k : Nat} (ha : las[k]? = some D) (ns : List Nat) : GrX K (upd H D (.lst (ns.map vi))) z dx lo hd las has (lots.set k ns) held := by
  have m := List.mem_of_getElem? ha
  have zl := g.zl
  refine ⟨by rw [upd_ne (zl.2.2.1 D m).symm]; exact g.hz, by rw [upd_ne (g.nl D m).1.symm]; exact g.hlo, g.hls.write g.il ha ns, by rw [upd_ne (g.nl D m).2.symm]; exact g.hhd, g.hhs.impM fun a y m2 r => ?_, g.il, g.ih, g.dj, g.nlo, g.nl, g.nh⟩
  show upd _ _ _ _ = _
  rw [upd_ne (by intro c; subst c; exact g.dj a m m2)]
  exact r
theorem GrX.inHeld (g : GrX K H z dx lo hd las has lots held) {k : Nat} (ha : has[k]? = some D) (ns : List Nat) : GrX K (upd H D (.lst (ns.map vi))) z dx lo hd las has lots (held.set k ns) := by
  have m := List.mem_of_getElem? ha
  have zl := g.zl
  refine ⟨by rw [upd_ne (zl.2.2.2 D m).symm]; exact g.hz, by rw [upd_ne (g.nh D m).1.symm]; exact g.hlo, g.hls.impM fun a y m2 r => ?_, by rw [upd_ne (g.nh D m).2.symm]; exact g.hhd, g.hhs.write g.ih ha ns, g.il, g.ih, g.dj, g.nlo, g.nl, g.nh⟩
  show upd _ _ _ _ = _
  rw [upd_ne (by intro c; subst c; exact g.dj a m2 m)]
  exact r
end
end
end Lk
set_option Elab.async false
set_option linter.all false
set_option maxRecDepth 100000
set_option maxHeartbeats 4000000
namespace Lk
open PySem PySem.Spec PyProof.Rows L2
open He (ga ma)
section
variable {P : Program} {w : World} {K : PySem.W.Frag} {mg : Str → Option Value} {base : Heap}
def rListOf (K : PySem.W.Frag) : List V → Hp → VK → Prop := fun xs H Q => ∃ p ys, xs = [.ref p] ∧ (SqL K H p ys ∨ SqT K H p ys) ∧ ∀ l, H l = none → Q (.ref l) (upd H l (.lst ys))
def spGrInit (K : PySem.W.Frag) : Sp := fun vs H Q _ => ∃ (z dx : Addr), vs = [.ref z] ∧ H z = some (.ins (ga K "Groups") dx []) ∧
  ∀ lo hd H', But z H H' → H lo = none → H hd = none → lo ≠ hd → H' z = some (.ins (ga K "Groups") dx (fGr lo hd)) → Q .non H'
theorem ok_Groups_init (T : Tx K mg) (F : Fx K) : DefOk P w K mg base CX0 1 (ma K (ga K "Groups") "__init__") ["self"] (spGrInit K) := by
  refine def0 F.f_Groups_init bd_Groups_init sc_Groups_init (fun vs H Q E h => ?_) (fun cdv A outer s H vs Q E hr h => ?_)
  · obtain ⟨z, dx, rfl, _⟩ := h
    rfl
  · obtain ⟨z, dx, rfl, hz, k⟩ := h
    refine ⟨_, pss_cons (ps_fld (pv 0) (pe_lst pa_nil) (by rfl)) (pss_one (ps_fld (pv 0) (pe_lst pa_nil) (by rfl))), ?_⟩
    refine ⟨l0, fun lo hlo => ?_⟩
    have n1 : lo ≠ z := (ne_of_none hz hlo).symm
    refine ⟨_, rfl, z, _, dx, _, rfl, Same.new hlo _ _ hz, T.c_Groups, T.n_Groups_lots, by decide, ?_⟩
    refine ⟨l0, fun hd hhd => ?_⟩
    have n2 : hd ≠ z := by
      intro e
      rw [e, upd_same] at hhd
      cases hhd
    have n3 : hd ≠ lo := by
      intro e
      rw [e, upd_ne n1, upd_same] at hhd
      cases hhd
    rw [upd_ne n2, upd_ne n3] at hhd
    refine ⟨_, rfl, z, _, dx, _, rfl, by rw [upd_ne n2.symm, upd_same], T.c_Groups, T.n_Groups_held, by show 1 < 1000; decide, ?_⟩
    exact k lo hd _ ((((But.new hlo).trans But.upd).trans (But.new (by rw [upd_ne n2, upd_ne n3]; exact hhd))).trans But.upd) hlo hhd n3.symm upd_same
theorem mk_ins {C : Addr} {H H1 : Hp} {x dx : Addr} (hx : H x = none) (hdx : H dx = none) (hn : dx ≠ x) (b : But x (upd (upd H dx (.own x)) x (.ins C dx [])) H1) : Same H H1 := by
  refine But.same hx ?_ b
  exact (Same.new hdx).trans (Same.new (by rw [upd_ne (Ne.symm hn)]; exact hx))
theorem mk_ins0 {C : Addr} {H : Hp} {x dx : Addr} (hx : H x = none) (hdx : H dx = none) (hn : dx ≠ x) : Same H (upd (upd H dx (.own x)) x (.ins C dx [])) := (Same.new hdx).trans (Same.new (by rw [upd_ne (Ne.symm hn)]; exact hx))
/-- young things -/
def Yg (H : Hp) (z lo hd : Addr) (las has : List Addr) : Prop := H z = none ∧ H lo = none ∧ H hd = none ∧ (∀ a ∈ las, H a = none) ∧ ∀ a ∈ has, H a = none
/-- lists made one by one in a comprehension -/
theorem AllAt.take {α β : Type} {R : α → β → Prop} {xs : List α} {ys : List β} (h : AllAt R xs ys) (n : Nat) : AllAt R (xs.take n) (ys.take n) := by
  refine ⟨by simp [h.1], fun i x y hx hy => ?_⟩
  rw [List.getElem?_take] at hx hy
  split at hx
  · rename_i hlt
    rw [if_pos hlt] at hy
    exact h.2 i x y hx hy
  · cases hx
def spGrFrom (K : PySem.W.Frag) : Sp := fun vs H Q _ => ∃ (a b : Addr) (lots held : List (List Nat)), vs = [.ref a, .ref b] ∧ TT2 H a lots ∧ TT2 H b held ∧ lots.length ≤ 100 ∧ held.length ≤ 100 ∧
  ∀ z dx lo hd las has H', Same H H' → GrX K H' z dx lo hd las has lots held → Yg H z lo hd las has → Q (.ref z) H'
theorem ok_groups_from (T : Tx K mg) (F : Fx K) : DefOk P w K mg base CX0 3 (ga K "groups_from") ["lots", "held"] (spGrFrom K) := by
  have D1 := ok_Groups_init (P := P) (w := w) (base := base) T F
  refine def0 F.f_groups_from bd_groups_from sc_groups_from (fun vs H Q E h => ?_) (fun cdv A outer s H vs Q E hr h => ?_)
  · obtain ⟨a, b, lots, held, rfl, _⟩ := h
    rfl
  · obtain ⟨a, b, lots, held, rfl, ⟨as, ha, ra⟩, ⟨bs, hb, rb⟩, la, lb, k⟩ := h
    refine ⟨_, pss_cons (ps_set (i := 2) sc_groups_from.nd rfl (Or.inl rfl) (pe_mak0 T.k_Groups D1 hr (by rfl) T.g_Groups pass0))
      (pss_cons (ps_fld (pv 2) (pe_lc (own := [("lot", 3)]) (g := gName 3) (tt := tYes) rfl sc_groups_from.nd (pi_tup (pv 0)) (blkOk_by (N := N_groups_from) (sc := defScope s_groups_from) (by decide +kernel)) (fun _ _ _ _ _ => pg_name (i := 3) sc_groups_from.nd rfl (Or.inl rfl)) (fun _ _ _ _ _ => pts_nil)
          (fun _ _ _ _ _ => pe_callTy (T := "list") (r := rListOf K) call_list_of (by rfl) T.b_list (by decide +kernel) (pa_cons (pv 3) pa_nil))) (by rfl))
      (pss_cons (ps_fld (pv 2) (pe_lc (own := [("row", 4)]) (g := gName 4) (tt := tYes) rfl sc_groups_from.nd (pi_tup (pv 1)) (blkOk_by (N := N_groups_from) (sc := defScope s_groups_from) (by decide +kernel)) (fun _ _ _ _ _ => pg_name (i := 4) sc_groups_from.nd rfl (Or.inl rfl)) (fun _ _ _ _ _ => pts_nil)
          (fun _ _ _ _ _ => pe_callTy (T := "list") (r := rListOf K) call_list_of (by rfl) T.b_list (by decide +kernel) (pa_cons (pv 4) pa_nil))) (by rfl))
      (pss_one (ps_ret (pv 2))))), ?_⟩
    refine fun z dx hz hdx hn => ⟨z, dx, rfl, upd_same, fun lo0 hd0 H1 bt h1 h2 h3 h4 => ⟨rfl, ?_⟩⟩
    have s1 : Same H H1 := mk_ins hz hdx hn bt
    refine ⟨_, rfl, a, rfl, ⟨_, .of (s1 _ _ ha)⟩, fun D hD => lc_tup (K := K) (a := a) (xs := as.map V.ref) (fun i H' => Same H1 H' ∧ ∃ las, H' D = some (.lst (las.map V.ref)) ∧ AllAt (LN H') las (lots.take i) ∧ Inj las ∧ D ∉ las ∧ ∀ l ∈ las, H1 l = none)
      ⟨Same.new hD, [], upd_same, by rw [List.take_zero]; exact .nil, .nil, by simp, by simp⟩ (fun i H' _ ⟨e, _⟩ => .of ((s1.trans e) _ _ ha)) ?_ ?_⟩
    · rintro i x H' hi ⟨e, las, q1, q2, q3, q4, q5⟩
      obtain ⟨c, hc, rfl⟩ := get_map hi
      obtain ⟨lot, hlot, r⟩ := ra.get' hc
      refine ⟨rfl, ?_⟩
      refine iteT (B := True) ?_
      refine ⟨_, rfl, c, _, rfl, .inr (.of ((s1.trans e) _ _ r)), fun l hl => ?_⟩
      have nD : l ≠ D := (ne_of_none q1 hl).symm
      refine ⟨las.map V.ref, by rw [upd_ne nD.symm]; exact q1, ?_, ?_⟩
      · rw [List.length_map, q2.1, List.length_take]
        exact small1000 (by omega)
      · have s2 : Same H' (upd H' l (.lst (lot.map vi))) := Same.new hl
        have nl : l ∉ las := fun m => by
          obtain ⟨y, r⟩ := q2.mem m
          exact ne_of_none r hl rfl
        have e2 : Same H1 (upd (upd H' l (.lst (lot.map vi))) D (.lst (las.map V.ref ++ [.ref l]))) := same_upd hD (e.trans s2)
        refine ⟨e2, las ++ [l], by rw [upd_same, List.map_append]; rfl, ?_, q3.snoc nl, ?_, fun y m => ?_⟩
        · rw [take_snoc hlot]
          refine (q2.impM fun u v m r => ?_).snoc ?_
          · show upd _ _ _ _ = _
            rw [upd_ne (by intro c; subst c; exact q4 m)]
            exact s2 _ _ r
          · show upd _ _ _ _ = _
            rw [upd_ne nD, upd_same]
        · intro m
          rcases List.mem_append.mp m with m | m
          · exact q4 m
          · exact nD (List.mem_singleton.mp m).symm
        · rcases List.mem_append.mp m with m | m
          · exact q5 y m
          · rw [List.mem_singleton.mp m]
            exact e.free hl
    · rintro H2 ⟨e, las, q1, q2, q3, q4, q5⟩
      rw [List.length_map, ra.1, List.take_length] at q2
      refine ⟨_, rfl, z, _, dx, _, rfl, e _ _ h4, T.c_Groups, T.n_Groups_lots, by show 2 < 1000; decide, ?_⟩
      have zn : H z = none := hz
      have s2 : Same H H2 := s1.trans e
      have nzD : D ≠ z := (ne_of_none h4 hD).symm
      have s3 : Same H (upd H2 z (.ins (ga K "Groups") dx (putF "lots" (.ref D) (fGr lo0 hd0)))) := same_upd zn s2
      have q1' : upd H2 z (.ins (ga K "Groups") dx (putF "lots" (.ref D) (fGr lo0 hd0))) D = some (.lst (las.map V.ref)) := by rw [upd_ne nzD]; exact q1
      have nlz : ∀ l ∈ las, l ≠ z := fun l m c => by
        have := q5 l m
        rw [c, h4] at this
        cases this
      have q2' : AllAt (LN (upd H2 z (.ins (ga K "Groups") dx (putF "lots" (.ref D) (fGr lo0 hd0))))) las lots := q2.impM fun u v m r => by
        show upd _ _ _ _ = _
        rw [upd_ne (nlz u m)]
        exact r
      generalize eH : upd H2 z (.ins (ga K "Groups") dx (putF "lots" (.ref D) (fGr lo0 hd0))) = H3 at s3 q1' q2' ⊢
      have hz3 : H3 z = some (.ins (ga K "Groups") dx (fGr D hd0)) := by rw [← eH, upd_same]; rfl
      refine ⟨_, rfl, b, rfl, ⟨_, .of (s3 _ _ hb)⟩, fun D2 hD2 => lc_tup (K := K) (a := b) (xs := bs.map V.ref) (fun i H' => Same H3 H' ∧ ∃ las, H' D2 = some (.lst (las.map V.ref)) ∧ AllAt (LN H') las (held.take i) ∧ Inj las ∧ D2 ∉ las ∧ ∀ l ∈ las, H3 l = none)
        ⟨Same.new hD2, [], upd_same, by rw [List.take_zero]; exact .nil, .nil, by simp, by simp⟩ (fun i H' _ ⟨e, _⟩ => .of ((s3.trans e) _ _ hb)) ?_ ?_⟩
      · rintro i x H' hi ⟨e, las, q1, q2, q3, q4, q5⟩
        obtain ⟨c, hc, rfl⟩ := get_map hi
        obtain ⟨lot, hlot, r⟩ := rb.get' hc
        refine ⟨rfl, ?_⟩
        refine iteT (B := True) ?_
        refine ⟨_, rfl, c, _, rfl, .inr (.of ((s3.trans e) _ _ r)), fun l hl => ?_⟩
        have nD : l ≠ D2 := (ne_of_none q1 hl).symm
        refine ⟨las.map V.ref, by rw [upd_ne nD.symm]; exact q1, ?_, ?_⟩
        · rw [List.length_map, q2.1, List.length_take]
          exact small1000 (by omega)
        · have s2 : Same H' (upd H' l (.lst (lot.map vi))) := Same.new hl
          have nl : l ∉ las := fun m => by
            obtain ⟨y, r⟩ := q2.mem m
            exact ne_of_none r hl rfl
          have e2 : Same H3 (upd (upd H' l (.lst (lot.map vi))) D2 (.lst (las.map V.ref ++ [.ref l]))) := same_upd hD2 (e.trans s2)
          refine ⟨e2, las ++ [l], by rw [upd_same, List.map_append]; rfl, ?_, q3.snoc nl, ?_, fun y m => ?_⟩
          · rw [take_snoc hlot]
            refine (q2.impM fun u v m r => ?_).snoc ?_
            · show upd _ _ _ _ = _
              rw [upd_ne (by intro c; subst c; exact q4 m)]
              exact s2 _ _ r
            · show upd _ _ _ _ = _
              rw [upd_ne nD, upd_same]
          · intro m
            rcases List.mem_append.mp m with m | m
            · exact q4 m
            · exact nD (List.mem_singleton.mp m).symm
          · rcases List.mem_append.mp m with m | m
            · exact q5 y m
            · rw [List.mem_singleton.mp m]
              exact e.free hl
      · rintro H4 ⟨e4, has, p1, p2, p3, p4, p5⟩
        rw [List.length_map, rb.1, List.take_length] at p2
        refine ⟨_, rfl, z, _, dx, _, rfl, e4 _ _ hz3, T.c_Groups, T.n_Groups_held, by show 2 < 1000; decide, ?_⟩
        have nzD2 : D2 ≠ z := (ne_of_none hz3 hD2).symm
        have nhz : ∀ l ∈ has, l ≠ z := fun l m c => by
          have := p5 l m
          rw [c, hz3] at this
          cases this
        have nhl : ∀ l ∈ las, l ∉ has := fun l m m2 => by
          obtain ⟨y, r⟩ := q2'.mem m
          exact ne_of_none r (p5 l m2) rfl
        have nhD : ∀ l ∈ has, l ≠ D := fun l m => (ne_of_none q1' (p5 l m)).symm
        have nlD2 : ∀ l ∈ las, l ≠ D2 := fun l m c => by
          obtain ⟨y, r⟩ := q2'.mem m
          exact ne_of_none r hD2 c
        refine ⟨_, rfl, k z dx D D2 las has _ (same_upd zn (s3.trans e4)) ⟨upd_same, ?_, ?_, ?_, ?_, q3, p3, nhl, (ne_of_none q1' hD2), fun l m => ⟨fun c => q4 (c ▸ m), nlD2 l m⟩, fun l m => ⟨nhD l m, fun c => p4 (c ▸ m)⟩⟩ ⟨zn, (s1.free hD), s3.free hD2, fun l m => s1.free (q5 l m), fun l m => s3.free (p5 l m)⟩⟩
        · rw [upd_ne nzD]
          exact e4 _ _ q1'
        · exact q2'.impM fun u v m r => by
            show upd _ _ _ _ = _
            rw [upd_ne (nlz u m)]
            exact e4 _ _ r
        · rw [upd_ne nzD2]
          exact p1
        · exact p2.impM fun u v m r => by
            show upd _ _ _ _ = _
            rw [upd_ne (nhz u m)]
            exact r
end
end Lk
set_option Elab.async false
set_option linter.all false
set_option maxRecDepth 100000
set_option maxHeartbeats 4000000
namespace Lk
open PySem PySem.Spec PyProof.Rows L2
open He (ga ma)
section
variable {P : Program} {w : World} {K : PySem.W.Frag} {mg : Str → Option Value} {base : Heap}
def opt : Option Nat → V
  | none => .non
  | some n => vi n
/-- what the lots and the holders are like -/
structure GrOk (lots held : List (List Nat)) : Prop where
  inr : ∀ lot ∈ lots, ∀ s ∈ lot, s < held.length
  ne : ∀ row ∈ held, row ≠ []
  sl : lots.length ≤ 100
  sh : held.length ≤ 100
  sz : ∀ lot ∈ lots, lot.length ≤ 50
theorem last_vi {row : List Nat} (h : row ≠ []) : atI (row.map vi) (-(1 : Int)) = some (vi (row.getLastD 0)) := by
  have e : row = row.dropLast ++ [row.getLastD 0] := by
    conv => lhs; rw [← List.dropLast_concat_getLast h]
    rw [List.getLastD_eq_getLast?, List.getLast?_eq_some_getLast h]
    rfl
  have e2 : row.map vi = row.dropLast.map vi ++ [vi (row.getLastD 0)] := by
    conv => lhs; rw [e]
    rw [List.map_append]
    rfl
  rw [e2]
  exact atI_last _ _
theorem lookHeld {K : PySem.W.Frag} {H : Hp} {z dx lo hd : Addr} {las has : List Addr} {lots held : List (List Nat)} (g : GrX K H z dx lo hd las has lots held) {s : Nat} (h : s < held.length) : ∃ a, has[s]? = some a ∧ LN H a (held.getD s []) := by
  have e : held[s]? = some held[s] := List.getElem?_eq_getElem h
  obtain ⟨a, ha, r⟩ := g.hhs.get e
  refine ⟨a, ha, ?_⟩
  rw [List.getD_eq_getElem?_getD, e]
  exact r
theorem lookLots {K : PySem.W.Frag} {H : Hp} {z dx lo hd : Addr} {las has : List Addr} {lots held : List (List Nat)} (g : GrX K H z dx lo hd las has lots held) {s : Nat} (h : s < lots.length) : ∃ a, las[s]? = some a ∧ LN H a (lots.getD s []) := by
  have e : lots[s]? = some lots[s] := List.getElem?_eq_getElem h
  obtain ⟨a, ha, r⟩ := g.hls.get e
  refine ⟨a, ha, ?_⟩
  rw [List.getD_eq_getElem?_getD, e]
  exact r
theorem filter_snoc {α : Type} {l : List α} {i : Nat} {x : α} (f : α → Bool) (h : l[i]? = some x) : (l.take (i + 1)).filter f = (l.take i).filter f ++ (if f x = true then [x] else []) := by
  rw [take_snoc h, List.filter_append]
  congr 1
  by_cases e : f x = true
  · simp [e]
  · simp [e]
def spFit (K : PySem.W.Frag) : Sp := fun vs H Q _ => ∃ (z b l g dx lo hd : Addr) (las has : List Addr) (lots held rows : List (List Nat)) (lot : List Nat) (x : Nat), vs = [.ref z, .ref b, .ref l, vi x] ∧ GrX K H z dx lo hd las has lots held ∧
  BookAt K g H b rows ∧ x < rows.length ∧ LN H l lot ∧ (∀ s ∈ lot, s < held.length) ∧ (∀ row ∈ held, row ≠ []) ∧ lot.length ≤ 50 ∧ ∀ H', Same H H' → Q (opt (fitM (runM rows).bits held x lot)) H'
theorem ok_Groups_fitting (T : Tx K mg) (F : Fx K) : DefOk P w K mg base CX0 2 (ma K (ga K "Groups") "fitting") ["self", "book", "lot", "x"] (spFit K) := by
  have D1 := ok_is_one (P := P) (w := w) (base := base) T F
  refine def0 F.f_Groups_fitting bd_Groups_fitting sc_Groups_fitting (fun vs H Q E h => ?_) (fun cdv A outer s H vs Q E hr h => ?_)
  · obtain ⟨z, b, l, g, dx, lo, hd, las, has, lots, held, rows, lot, x, rfl, _⟩ := h
    rfl
  · obtain ⟨z, b, l, g, dx, lo, hd, las, has, lots, held, rows, lot, x, rfl, G, B, hx, hl, hin, hne, hsz, k⟩ := h
    refine ⟨_, pss_cons (ps_setLc (i := 4) (own := [("slot", 5)]) (g := gName 5) (tt := tB (cCall (spIsOne K) E0 (tCons (tVar 1) (tCons (tVar 3) (tCons (tOp (rIxL K) (tOp (rIxL K) (tFld K (tVar 0) "held") (tVar 5)) (tUn (rU fun i => .int (-i)) (tC (.int 1)))) tNil)))))
        rfl sc_Groups_fitting.nd rfl rfl (sw_true rfl rfl rfl (by decide +kernel)) (pi_list (pv 2)) (blkOk_by (own := [("slot", 5)]) (N := N_Groups_fitting) (sc := defScope s_Groups_fitting) (by decide +kernel))
        (fun _ _ _ _ _ => pg_name (i := 5) sc_Groups_fitting.nd rfl (Or.inl rfl)) (fun _ _ _ _ _ => pts_one (pt_val (pe_cal D1 hr (by rfl) T.g_is_one pass0 (pa_cons (pv 1) (pa_cons (pv 3) (pa_cons (pe_ix ix_list (pe_ix ix_list (pe_fld (pv 0) (by rfl)) (pv 5) (fun _ _ => rfl)) (pe_un un_neg pe_int) (fun _ _ => rfl)) pa_nil))))))
        (fun _ _ _ _ _ => pv 5))
      (pss_one (ps_ret (pe_ifExp (pt_cmpR op_gt (pe_callB call_len (by rfl) T.b_len (by decide +kernel) (pa_cons (pv 4) pa_nil)) pe_int (nomark _)) (pe_callB (cr_min rfl) (by rfl) T.b_min (by decide +kernel) (pa_cons (pv 4) pa_nil)) pe_non))), ?_⟩
    refine ⟨_, rfl, l, rfl, ⟨_, .of hl⟩, fun D hD => lc_list (K := K) (a := l) (xs := lot.map vi) (fun i H' => Same H H' ∧ H' D = some (.lst (((lot.take i).filter fun s => oneM (runM rows).bits x ((held.getD s []).getLastD 0)).map vi)))
      ⟨Same.new hD, by rw [List.take_zero]; exact upd_same⟩ (fun i H' _ ⟨e, _⟩ => .of (e _ _ hl)) ?_ ?_⟩
    · rintro i y H' hi ⟨e, q⟩
      obtain ⟨sl, hsl, rfl⟩ := get_map hi
      have hlt := hin sl (List.mem_of_getElem? hsl)
      obtain ⟨a, ha, ra⟩ := lookHeld G hlt
      have hne1 : held.getD sl [] ≠ [] := by
        rw [List.getD_eq_getElem?_getD, List.getElem?_eq_getElem hlt]
        exact hne _ (List.getElem_mem hlt)
      have fs := filter_snoc (fun s => oneM (runM rows).bits x ((held.getD s []).getLastD 0)) hsl
      refine ⟨rfl, ?_⟩
      refine ⟨_, rfl, _, rfl, _, rfl, z, _, dx, _, _, rfl, e _ _ G.hz, T.c_Groups, T.n_Groups_held, fGr_held lo hd, _, rfl, hd, _, _, _, rfl, rfl, .of (e _ _ G.hhd), atI_nat (map_get ha), _, rfl, a, _, _, _, rfl, rfl, .of (e _ _ ra), last_vi hne1,
        b, g, rows, x, _, rfl, B.same e, hx, _, rfl, ?_⟩
      cases hc : oneM (runM rows).bits x ((held.getD sl []).getLastD 0) with
      | true =>
        rw [if_pos hc] at fs
        refine iteT (B := True) ?_
        refine ⟨_, rfl, _, q, ?_, same_upd hD e, ?_⟩
        · rw [List.length_map]
          exact small1000 (Nat.le_trans (List.length_filter_le _ _) (Nat.le_trans (by rw [List.length_take]; exact Nat.min_le_right _ _) (by omega)))
        · rw [upd_same, fs, List.map_append]
          rfl
      | false =>
        rw [if_neg (by rw [hc]; exact Bool.false_ne_true), List.append_nil] at fs
        refine iteF (A := True) ?_
        rw [fs]
        exact ⟨e, q⟩
    · rintro H1 ⟨e, q⟩
      rw [List.length_map, List.take_length] at q
      refine ⟨_, rfl, _, _, rfl, .inl ⟨_, .of q, rfl⟩, _, _, rfl, rfl, _, rfl, ?_⟩
      have kk := k H1 e
      unfold fitM at kk
      generalize lot.filter (fun s => oneM (runM rows).bits x ((held.getD s []).getLastD 0)) = fl at q kk ⊢
      cases fl with
      | nil => exact kk
      | cons f0 fr =>
        rw [List.length_map]
        have e1 : decide ((0 : Int) < (((f0 :: fr).length : Nat) : Int)) = true := decide_eq_true (by rw [List.length_cons]; omega)
        rw [e1]
        refine iteT (B := True) ?_
        refine ⟨_, rfl, D, (f0 :: fr).map (fun n : Nat => (n : Int)), rfl, .of ?_, by rw [List.length_map, List.length_cons]; omega, fun m hm hle => ?_⟩
        · rw [q, List.map_map]
          rfl
        · obtain ⟨m', hm', rfl⟩ := List.mem_map.mp hm
          have : (f0 :: fr).min? = some m' := List.min?_eq_some_iff.mpr ⟨hm', fun y hy => by
            have := hle (y : Int) (List.mem_map.mpr ⟨y, hy, rfl⟩)
            exact_mod_cast this⟩
          rw [this] at kk
          exact kk
def spTaken (K : PySem.W.Frag) : Sp := fun vs H Q _ => ∃ (z b g dx lo hd : Addr) (las has : List Addr) (lots held rows : List (List Nat)) (x : Nat), vs = [.ref z, .ref b, vi x] ∧ GrX K H z dx lo hd las has lots held ∧ GrOk lots held ∧
  BookAt K g H b rows ∧ x < rows.length ∧ ∀ p H', Same H H' → H' p = some (.tup [vi (takenM (fitM (runM rows).bits held x) 0 lots).1, opt (takenM (fitM (runM rows).bits held x) 0 lots).2]) → Q (.ref p) H'
theorem takenM_cons (f : List Nat → Option Nat) (n : Nat) (lot : List Nat) (r : List (List Nat)) : takenM f n (lot :: r) = if (f lot).isSome || decide (lot.length ≤ n) then (n, f lot) else takenM f (n + 1) r := rfl
theorem ok_Groups_taken (T : Tx K mg) (F : Fx K) : DefOk P w K mg base CX0 3 (ma K (ga K "Groups") "taken") ["self", "book", "x"] (spTaken K) := by
  have D1 := ok_Groups_fitting (P := P) (w := w) (base := base) T F
  refine def0 F.f_Groups_taken bd_Groups_taken sc_Groups_taken (fun vs H Q E h => ?_) (fun cdv A outer s H vs Q E hr h => ?_)
  · obtain ⟨z, b, g, dx, lo, hd, las, has, lots, held, rows, x, rfl, _⟩ := h
    rfl
  · obtain ⟨z, b, g, dx, lo, hd, las, has, lots, held, rows, x, rfl, G, GO, B, hx, k⟩ := h
    refine ⟨_, pss_cons (ps_for PassesOwn.never rfl (pi_enum (by rfl) T.b_enumerate (pa_cons (pe_fld (pv 0) (by rfl)) pa_nil)) (pg_tup (n := 2) rfl (pgs_cons (pg_name (i := 3) sc_Groups_taken.nd rfl (Or.inl rfl)) (pgs_cons (pg_name (i := 4) sc_Groups_taken.nd rfl (Or.inl rfl)) pgs_nil)))
        (pss_cons (ps_set (i := 5) sc_Groups_taken.nd rfl (Or.inl rfl) (pe_met (pv 0) T.c_Groups T.m_Groups_fitting D1 hr pass0 (pa_cons (pv 1) (pa_cons (pv 4) (pa_cons (pv 2) pa_nil)))))
        (pss_one (ps_if (pw_or (pt_cmpR op_notN (pv 5) pe_non (nomark _)) (pw_or1 (pt_cmpR op_le (pe_callB call_len (by rfl) T.b_len (by decide +kernel) (pa_cons (pv 4) pa_nil)) (pv 3) (nomark _)))).pt
          (pss_one (ps_ret (pe_tup (pa_cons (pv 3) (pa_cons (pv 5) pa_nil))))) pss_nil))))
      (pss_one (ps_ret (pe_tup (pa_cons (pe_callB call_len (by rfl) T.b_len (by decide +kernel) (pa_cons (pe_fld (pv 0) (by rfl)) pa_nil)) (pa_cons pe_non pa_nil))))), ?_⟩
    refine ⟨_, rfl, z, _, dx, _, _, rfl, G.hz, T.c_Groups, T.n_Groups_lots, fGr_lots lo hd, lo, _, rfl, .of G.hlo, for_enum (K := K) (a := lo) (xs := las.map V.ref)
      (fun i σ H' => Same H H' ∧ (∃ v3 v4 v5, σ = [some (.ref z), some (.ref b), some (vi x), v3, v4, v5]) ∧ takenM (fitM (runM rows).bits held x) i (lots.drop i) = takenM (fitM (runM rows).bits held x) 0 lots)
      ⟨Same.refl _, ⟨none, none, none, rfl⟩, rfl⟩ (fun i σ H' ⟨e, _⟩ => .of (e _ _ G.hlo)) ?_ ?_⟩
    · rintro i y t σ H' hi ⟨e, ⟨v3, v4, v5, rfl⟩, tk⟩ ht
      obtain ⟨la, hla, rfl⟩ := get_map hi
      obtain ⟨lot, hlot, r⟩ := G.hls.get' hla
      have st : Same H' (upd H' t (.tup [.int (i : Nat), .ref la])) := Same.new ht
      have e1 := e.trans st
      have ml := List.mem_of_getElem? hlot
      refine ⟨t, _, rfl, .of upd_same, rfl, _, _, rfl, _, _, rfl, rfl, ?_⟩
      refine ⟨_, rfl, z, dx, _, rfl, e1 _ _ G.hz, rfl, _, rfl, _, rfl, _, rfl, z, b, la, g, dx, lo, hd, las, has, lots, held, rows, lot, x, rfl, G.same e1, B.same e1, hx, e1 _ _ r, GO.inr lot ml, GO.ne, GO.sz lot ml, fun H2 e2 => ?_⟩
      rw [drop_get hlot, takenM_cons] at tk
      have e3 := e1.trans e2
      refine ⟨_, rfl, rfl, _, rfl, ?_⟩
      cases hf : fitM (runM rows).bits held x lot with
      | some f =>
        rw [hf] at tk
        refine iteT (B := True) ?_
        refine iteT (B := True) ?_
        refine ⟨_, rfl, _, rfl, l2, fun p hp => k p _ (e3.trans (Same.new hp)) ?_⟩
        rw [upd_same, ← tk]
        rfl
      | none =>
        rw [hf] at tk
        refine iteF (A := True) ?_
        refine ⟨_, rfl, _, _, rfl, .inl ⟨_, .of (e3 _ _ r), rfl⟩, _, rfl, _, _, rfl, rfl, _, rfl, ?_⟩
        have ed : decide ((((lot.map vi).length : Nat) : Int) ≤ ((i : Nat) : Int)) = decide (lot.length ≤ i) := by
          rw [List.length_map]
          exact decide_eq_decide.mpr (by omega)
        rw [ed]
        cases hd2 : decide (lot.length ≤ i) with
        | true =>
          rw [hd2] at tk
          refine iteT (B := True) ?_
          refine ⟨_, rfl, _, rfl, l2, fun p hp => k p _ (e3.trans (Same.new hp)) ?_⟩
          rw [upd_same, ← tk]
          rfl
        | false =>
          rw [hd2] at tk
          refine iteF (A := True) ?_
          exact ⟨e3, ⟨_, _, _, rfl⟩, tk⟩
    · rintro σ H' ⟨e, ⟨v3, v4, v5, rfl⟩, tk⟩
      rw [List.length_map, G.hls.1, List.drop_length] at tk
      refine ⟨_, rfl, z, _, dx, _, _, rfl, e _ _ G.hz, T.c_Groups, T.n_Groups_lots, fGr_lots lo hd, _, _, rfl, .inl ⟨_, .of (e _ _ G.hlo), rfl⟩, l2, fun p hp => k p _ (e.trans (Same.new hp)) ?_⟩
      rw [upd_same, ← tk, List.length_map, G.hls.1]
      rfl
end
end Lk
set_option Elab.async false
set_option linter.all false
set_option maxRecDepth 100000
set_option maxHeartbeats 4000000
namespace Lk
open PySem PySem.Spec PyProof.Rows L2
open He (ga ma)
section
variable {P : Program} {w : World} {K : PySem.W.Frag} {mg : Str → Option Value} {base : Heap}
/-- a block cut at an assertion of one's own -/
def tCut (t u : TS) : TS := fun D σ H => ∃ I : L2.St → Hp → Prop, t { D with nx := I } σ H ∧ ∀ σ' H', I σ' H' → u D σ' H'
theorem pss_cut {X : Cx} {st : Stmt} {rest : List Stmt} {t u : TS} (h1 : PS X st t) (h2 : PSs X rest u) : PSs X (st :: rest) (tCut t u) := by
  refine ⟨fun pins s σ H D I ⟨J, h, k⟩ => ?_⟩
  refine wpAny_execs_cons (thn (h1.run pins s σ H { D with nx := J } I h) fun f s1 q => ?_)
  cases f with
  | next =>
    obtain ⟨σ', H', I', q⟩ := q
    exact h2.run pins s1 σ' H' D I' (k σ' H' q)
  | ret v => exact q
  | brk => exact q
  | cont => exact q
theorem taken_le (f : List Nat → Option Nat) : ∀ (l : List (List Nat)) (k : Nat), (takenM f k l).1 ≤ k + l.length ∧ ∀ s, (takenM f k l).2 = some s → (takenM f k l).1 < k + l.length ∧ ∃ lot ∈ l, f lot = some s
  | [], k => ⟨Nat.le_refl _, fun s h => by cases h⟩
  | lot :: r, k => by
    rw [takenM_cons]
    split
    · refine ⟨by rw [List.length_cons]; exact Nat.le_add_right _ _, fun s h => ⟨by rw [List.length_cons]; show k < _; omega, lot, by simp, h⟩⟩
    · obtain ⟨h1, h2⟩ := taken_le f r (k + 1)
      rw [List.length_cons]
      refine ⟨by omega, fun s h => ?_⟩
      obtain ⟨a, lot', m, e⟩ := h2 s h
      exact ⟨by omega, lot', by simp [m], e⟩
theorem fitM_mem {bits : List Nat} {held : List (List Nat)} {x s : Nat} {lot : List Nat} (h : fitM bits held x lot = some s) : s ∈ lot := (List.mem_filter.mp (List.min?_eq_some_iff.mp h).1).1
theorem mem_set_iff {α : Type} {l : List α} {k : Nat} {a b : α} (h : b ∈ l.set k a) : b ∈ l ∨ b = a := List.mem_or_eq_of_mem_set h
theorem Yg.setL {H : Hp} {z lo hd D : Addr} {las has : List Addr} (y : Yg H z lo hd las has) (h : H D = none) (k : Nat) : Yg H z lo hd (las.set k D) has :=
  ⟨y.1, y.2.1, y.2.2.1, fun a m => by
    rcases mem_set_iff m with m | rfl
    · exact y.2.2.2.1 a m
    · exact h, y.2.2.2.2⟩
theorem Yg.addL {H : Hp} {z lo hd D : Addr} {las has : List Addr} (y : Yg H z lo hd las has) (h : H D = none) : Yg H z lo hd (las ++ [D]) has :=
  ⟨y.1, y.2.1, y.2.2.1, fun a m => by
    rcases List.mem_append.mp m with m | m
    · exact y.2.2.2.1 a m
    · rw [List.mem_singleton.mp m]; exact h, y.2.2.2.2⟩
theorem Yg.addH {H : Hp} {z lo hd D : Addr} {las has : List Addr} (y : Yg H z lo hd las has) (h : H D = none) : Yg H z lo hd las (has ++ [D]) :=
  ⟨y.1, y.2.1, y.2.2.1, y.2.2.2.1, fun a m => by
    rcases List.mem_append.mp m with m | m
    · exact y.2.2.2.2 a m
    · rw [List.mem_singleton.mp m]; exact h⟩
theorem ixN_nat {n k : Nat} (h : k < n) : ixN n (k : Int) = some k := by
  unfold ixN
  rw [if_pos (Int.natCast_nonneg _), if_pos (by exact_mod_cast h), Int.toNat_natCast]
theorem getD_mem {l : List (List Nat)} {k : Nat} (h : k < l.length) : l.getD k [] ∈ l := by
  rw [List.getD_eq_getElem?_getD, List.getElem?_eq_getElem h]
  exact List.getElem_mem h
def spPut (K : PySem.W.Frag) : Sp := fun vs H Q _ => ∃ (H0 : Hp) (z b g dx lo hd : Addr) (las has : List Addr) (lots held rows : List (List Nat)) (x : Nat), vs = [.ref z, .ref b, vi x] ∧ GrX K H z dx lo hd las has lots held ∧ GrOk lots held ∧
  BookAt K g H0 b rows ∧ x < rows.length ∧ (∀ row ∈ held, row.length ≤ 50) ∧ Same H0 H ∧ Yg H0 z lo hd las has ∧
  ∀ las' has' H', Same H0 H' → GrX K H' z dx lo hd las' has' (putM (runM rows).bits lots held x).1 (putM (runM rows).bits lots held x).2.1 → Q (vi (putM (runM rows).bits lots held x).2.2) H'
theorem ok_Groups_put (T : Tx K mg) (F : Fx K) : DefOk P w K mg base CX0 4 (ma K (ga K "Groups") "put") ["self", "book", "x"] (spPut K) := by
  have D1 := ok_Groups_taken (P := P) (w := w) (base := base) T F
  have nd := sc_Groups_put.nd
  refine def0 F.f_Groups_put bd_Groups_put sc_Groups_put (fun vs H Q E h => ?_) (fun cdv A outer s H vs Q E hr h => ?_)
  · obtain ⟨H0, z, b, g, dx, lo, hd, las, has, lots, held, rows, x, rfl, _⟩ := h
    rfl
  · obtain ⟨H0, z, b, g, dx, lo, hd, las, has, lots, held, rows, x, rfl, G, GO, B, hx, hrl, S, Y, k⟩ := h
    refine ⟨_, pss_cons (ps_asg (pe_met (pv 0) T.c_Groups T.m_Groups_taken D1 hr pass0 (pa_cons (pv 1) (pa_cons (pv 2) pa_nil))) (pg_tup (n := 2) rfl (pgs_cons (pg_name (i := 3) nd rfl (Or.inl rfl)) (pgs_cons (pg_name (i := 4) nd rfl (Or.inr rfl)) pgs_nil))))
      (pss_cut (ps_if (pt_cmpR op_eq (pv 3) (pe_callB call_len (by rfl) T.b_len (by decide +kernel) (pa_cons (pe_fld (pv 0) (by rfl)) pa_nil)) (nomark _))
          (pss_one (ps_expr (pe_bm PySem.F.plainAttrs_list PySem.F.slot_list_append PySem.F.type_list_append mt_append (pe_fld (pv 0) (by rfl)) (pa_cons (pe_lst pa_nil) pa_nil)))) pss_nil)
      (pss_cut (ps_if (pt_cmpR op_isN (pv 4) pe_non (nomark _))
          (pss_cons (ps_set (i := 4) nd rfl (Or.inr rfl) (pe_callB call_len (by rfl) T.b_len (by decide +kernel) (pa_cons (pe_fld (pv 0) (by rfl)) pa_nil)))
          (pss_cons (ps_expr (pe_bm PySem.F.plainAttrs_list PySem.F.slot_list_append PySem.F.type_list_append mt_append (pe_fld (pv 0) (by rfl)) (pa_cons (pe_lst pa_nil) pa_nil)))
          (pss_one (ps_expr (pe_bm PySem.F.plainAttrs_list PySem.F.slot_list_append PySem.F.type_list_append mt_append (pe_ix ix_list (pe_fld (pv 0) (by rfl)) (pv 3) (fun _ _ => rfl)) (pa_cons (pv 4) pa_nil)))))) pss_nil)
      (pss_cut (ps_expr (pe_bm PySem.F.plainAttrs_list PySem.F.slot_list_append PySem.F.type_list_append mt_append (pe_ix ix_list (pe_fld (pv 0) (by rfl)) (pv 4) (fun _ _ => rfl)) (pa_cons (pv 2) pa_nil)))
      (pss_cut (ps_if (pt_cmpR op_gt (pv 3) pe_int (nomark _))
          (pss_cons (ps_setLc (i := 5) (own := [("one", 6)]) (g := gName 6) (tt := tTest (tOp rNe (tVar 6) (tVar 4))) rfl nd rfl rfl (sw_true rfl rfl rfl (by decide +kernel)) (pi_list (pe_ix ix_list (pe_fld (pv 0) (by rfl)) (pv 3) (fun _ _ => rfl)))
              (blkOk_by (own := [("one", 6)]) (N := N_Groups_put) (sc := defScope s_Groups_put) (by decide +kernel)) (fun _ _ _ _ _ => pg_name (i := 6) nd rfl (Or.inl rfl)) (fun _ _ _ _ _ => pts_one (pt_cmpR op_ne (pv 6) (pv 4) (nomark _))) (fun _ _ _ _ _ => pv 6))
          (pss_cons (ps_asg (pe_op op_cat (pe_ix ix_list (pe_fld (pv 0) (by rfl)) (pe_op op_sub (pv 3) pe_int) (fun _ _ => rfl)) (pe_lst (pa_cons (pv 4) pa_nil))) (pg_sub (pe_fld (pv 0) (by rfl)) (pv 3) set_list))
          (pss_one (ps_asg (pv 5) (pg_sub (pe_fld (pv 0) (by rfl)) (pe_op op_sub (pv 3) pe_int) set_list))))) pss_nil)
      (pss_one (ps_ret (pv 4))))))), ?_⟩
    refine ⟨_, rfl, z, dx, _, rfl, G.hz, rfl, _, rfl, _, rfl, z, b, g, dx, lo, hd, las, has, lots, held, rows, x, rfl, G, GO, B.same S, hx, fun p H1 s1 hp => ?_⟩
    refine ⟨p, _, rfl, .of hp, rfl, _, _, rfl, _, _, rfl, rfl, ?_⟩
    have tl := taken_le (fitM (runM rows).bits held x) lots 0
    unfold putM at k
    cases hq : takenM (fitM (runM rows).bits held x) 0 lots with
    | mk n o =>
    simp only [hq] at k tl
    rw [Nat.zero_add] at tl
    have S1 := S.trans s1
    have G1 := G.same s1
    -- lots1
    generalize hl1 : (if n = lots.length then lots ++ [[]] else lots) = lots1 at k
    have nl1 : n < lots1.length := by
      rw [← hl1]
      split
      · rw [List.length_append]
        simp
        omega
      · have := tl.1
        omega
    have sl1 : lots1.length ≤ 101 := by
      have := GO.sl
      rw [← hl1]
      split
      · rw [List.length_append]
        simp
        omega
      · omega
    have sz1 : ∀ lot ∈ lots1, lot.length ≤ 50 := by
      rw [← hl1]
      split
      · intro lot m
        rcases List.mem_append.mp m with m | m
        · exact GO.sz lot m
        · rw [List.mem_singleton.mp m]
          exact Nat.zero_le _
      · exact GO.sz
    refine ⟨fun σ H' => σ = [some (.ref z), some (.ref b), some (vi x), some (vi n), some (opt o), none, none] ∧ ∃ las1, Same H0 H' ∧ GrX K H' z dx lo hd las1 has lots1 held ∧ Yg H0 z lo hd las1 has, ?_, ?_⟩
    · refine ⟨_, rfl, _, rfl, z, _, dx, _, _, rfl, G1.hz, T.c_Groups, T.n_Groups_lots, fGr_lots lo hd, _, _, rfl, .inl ⟨_, .of G1.hlo, rfl⟩, rfl, _, rfl, ?_⟩
      rw [List.length_map, G1.hls.1]
      by_cases hn : n = lots.length
      · rw [if_pos hn] at hl1
        show if decide (V.int ((n : Nat) : Int) = V.int ((lots.length : Nat) : Int)) = true then _ else _
        rw [hn, decide_eq_true rfl]
        refine iteT (B := True) ?_
        refine ⟨_, rfl, z, _, dx, _, _, rfl, G1.hz, T.c_Groups, T.n_Groups_lots, fGr_lots lo hd, .inl ⟨rfl, _, .of G1.hlo⟩, l0, fun D hD => ?_⟩
        have sD : Same H1 (upd H1 D (.lst [])) := Same.new hD
        refine ⟨lo, _, .ref D, rfl, rfl, sD _ _ G1.hlo, by rw [List.length_map, G1.hls.1]; exact small1000 (by have := GO.sl; omega), rfl, las ++ [D], ?_, ?_, Y.addL (S1.free hD)⟩
        · exact same_upd Y.2.1 (S1.trans sD)
        · obtain ⟨f1, f2, f3, f4, f5⟩ := G1.fresh hD
          have := (G1.same sD).addLot (ns := []) (D := D) upd_same f2 f3 f4 f5
          rw [hl1, List.map_append] at this
          exact this
      · rw [if_neg hn] at hl1
        show if decide (V.int ((n : Nat) : Int) = V.int ((lots.length : Nat) : Int)) = true then _ else _
        rw [decide_eq_false (by intro e; exact hn (by exact_mod_cast (V.int.inj e)))]
        refine iteF (A := True) ?_
        rw [hl1] at G1
        exact ⟨rfl, las, S1, G1, Y⟩
    · rintro σ H2 ⟨rfl, las1, S2, G2, Y2⟩
      generalize hsl : o.getD held.length = slot at k
      generalize hh1 : (if o.isSome = true then held else held ++ [[]]) = held1 at k
      generalize hl2 : (if o.isSome = true then lots1 else lots1.set n (lots1.getD n [] ++ [slot])) = lots2 at k
      have ls1 : slot < held1.length := by
        rw [← hsl, ← hh1]
        cases o with
        | none =>
          show held.length < (held ++ [[]]).length
          rw [List.length_append]
          simp
        | some sl =>
          obtain ⟨_, lot, m, e⟩ := tl.2 sl rfl
          exact GO.inr lot m sl (fitM_mem e)
      have nl2 : n < lots2.length := by
        rw [← hl2]
        split
        · exact nl1
        · rw [List.length_set]
          exact nl1
      have sh1 : held1.length ≤ 101 := by
        have := GO.sh
        rw [← hh1]
        split
        · omega
        · rw [List.length_append]
          simp
          omega
      have sr1 : ∀ row ∈ held1, row.length ≤ 50 := by
        rw [← hh1]
        split
        · exact hrl
        · intro row m
          rcases List.mem_append.mp m with m | m
          · exact hrl row m
          · rw [List.mem_singleton.mp m]
            exact Nat.zero_le _
      have sz2 : ∀ lot ∈ lots2, lot.length ≤ 51 := by
        rw [← hl2]
        split
        · intro lot m
          have := sz1 lot m
          omega
        · intro lot m
          rcases mem_set_iff m with m | rfl
          · have := sz1 lot m
            omega
          · have := sz1 _ (getD_mem nl1)
            rw [List.length_append]
            show _ + 1 ≤ 51
            omega
      refine ⟨fun σ H' => σ = [some (.ref z), some (.ref b), some (vi x), some (vi n), some (vi slot), none, none] ∧ ∃ las2 has2, Same H0 H' ∧ GrX K H' z dx lo hd las2 has2 lots2 held1 ∧ Yg H0 z lo hd las2 has2, ?_, ?_⟩
      · refine ⟨_, rfl, rfl, _, rfl, ?_⟩
        cases o with
        | some sl =>
          rw [← hh1, ← hl2, ← hsl]
          refine iteF (A := True) ?_
          exact ⟨rfl, las1, has, S2, G2, Y2⟩
        | none =>
          have hsl' : held.length = slot := hsl
          have hh1' : held ++ [[]] = held1 := hh1
          have hl2' : lots1.set n (lots1.getD n [] ++ [slot]) = lots2 := hl2
          refine iteT (B := True) ?_
          refine ⟨_, rfl, z, _, dx, _, _, rfl, G2.hz, T.c_Groups, T.n_Groups_held, fGr_held lo hd, _, _, rfl, .inl ⟨_, .of G2.hhd, rfl⟩, ?_⟩
          rw [List.length_map, G2.hhs.1, hsl']
          refine ⟨_, rfl, z, _, dx, _, _, rfl, G2.hz, T.c_Groups, T.n_Groups_held, fGr_held lo hd, .inl ⟨rfl, _, .of G2.hhd⟩, l0, fun D hD => ?_⟩
          have sD : Same H2 (upd H2 D (.lst [])) := Same.new hD
          refine ⟨hd, _, .ref D, rfl, rfl, sD _ _ G2.hhd, by rw [List.length_map, G2.hhs.1]; exact small1000 (by have := GO.sh; omega), ?_⟩
          obtain ⟨f1, f2, f3, f4, f5⟩ := G2.fresh hD
          have G3 := (G2.same sD).addHeld (ns := []) (D := D) upd_same f2 f3 f4 f5
          rw [List.map_append] at G3
          have S3 : Same H0 (upd (upd H2 D (.lst [])) hd (.lst (has.map V.ref ++ [V.ref D]))) := same_upd Y2.2.2.1 (S2.trans sD)
          obtain ⟨la, hla, ra⟩ := lookLots G3 nl1
          refine ⟨_, rfl, z, _, dx, _, _, rfl, G3.hz, T.c_Groups, T.n_Groups_lots, fGr_lots lo hd, _, rfl, lo, _, _, _, rfl, rfl, .of G3.hlo, atI_nat (map_get hla), .inl ⟨rfl, _, .of ra⟩, _, rfl, la, _, vi slot, rfl, rfl, ra, ?_, ?_⟩
          · rw [List.length_map]
            exact small1000 (by have := sz1 _ (getD_mem nl1); omega)
          · have G4 := G3.inLot hla (lots1.getD n [] ++ [slot])
            rw [hl2', hh1', List.map_append] at G4
            exact ⟨rfl, las1, has ++ [D], same_upd (Y2.2.2.2.1 la (List.mem_of_getElem? hla)) S3, G4, Y2.addH (S2.free hD)⟩
      · rintro σ H3 ⟨rfl, las2, has2, S3, G3, Y3⟩
        generalize hh2 : held1.set slot (held1.getD slot [] ++ [x]) = held2 at k
        refine ⟨fun σ H' => σ = [some (.ref z), some (.ref b), some (vi x), some (vi n), some (vi slot), none, none] ∧ Same H0 H' ∧ GrX K H' z dx lo hd las2 has2 lots2 held2, ?_, ?_⟩
        · obtain ⟨ha, hha, ra⟩ := lookHeld G3 ls1
          refine ⟨_, rfl, z, _, dx, _, _, rfl, G3.hz, T.c_Groups, T.n_Groups_held, fGr_held lo hd, _, rfl, hd, _, _, _, rfl, rfl, .of G3.hhd, atI_nat (map_get hha), .inl ⟨rfl, _, .of ra⟩, _, rfl, ha, _, vi x, rfl, rfl, ra, ?_, ?_⟩
          · rw [List.length_map]
            exact small1000 (by have := sr1 _ (getD_mem ls1); omega)
          · have G4 := G3.inHeld hha (held1.getD slot [] ++ [x])
            rw [hh2, List.map_append] at G4
            exact ⟨rfl, same_upd (Y3.2.2.2.2 ha (List.mem_of_getElem? hha)) S3, G4⟩
        · rintro σ H4 ⟨rfl, S4, G4⟩
          refine ⟨fun σ H' => (∃ v w', σ = [some (.ref z), some (.ref b), some (vi x), some (vi n), some (vi slot), v, w']) ∧ ∃ las3, Same H0 H' ∧ GrX K H' z dx lo hd las3 has2 (if 0 < n then (lots2.set n (lots2.getD (n - 1) [] ++ [slot])).set (n - 1) ((lots2.getD n []).filter fun one => decide (one ≠ slot)) else lots2) held2, ?_, ?_⟩
          · refine ⟨_, rfl, _, _, rfl, rfl, _, rfl, ?_⟩
            by_cases hn : 0 < n
            · rw [if_pos hn]
              show if decide ((0 : Int) < (n : Int)) = true then _ else _
              rw [decide_eq_true (by exact_mod_cast hn)]
              refine iteT (B := True) ?_
              obtain ⟨la, hla, ra⟩ := lookLots G4 nl2
              refine ⟨_, rfl, z, _, dx, _, _, rfl, G4.hz, T.c_Groups, T.n_Groups_lots, fGr_lots lo hd, _, rfl, lo, _, _, _, rfl, rfl, .of G4.hlo, atI_nat (map_get hla), la, rfl, ⟨_, .of ra⟩, fun D hD => lc_list (K := K) (a := la) (xs := (lots2.getD n []).map vi)
                (fun i H' => Same H4 H' ∧ H' D = some (.lst ((((lots2.getD n []).take i).filter fun one => decide (one ≠ slot)).map vi))) ⟨Same.new hD, by rw [List.take_zero]; exact upd_same⟩ (fun i H' _ ⟨e, _⟩ => .of (e _ _ ra)) ?_ ?_⟩
              · rintro i y H' hi ⟨e, q⟩
                obtain ⟨one, hone, rfl⟩ := get_map hi
                have fs := filter_snoc (fun one => decide (one ≠ slot)) hone
                refine ⟨rfl, _, rfl, _, rfl, rfl, _, rfl, ?_⟩
                have ed : (!decide (V.int ((one : Nat) : Int) = V.int ((slot : Nat) : Int))) = decide (one ≠ slot) := by
                  by_cases c : one = slot
                  · subst c
                    simp
                  · rw [decide_eq_true c, decide_eq_false (by intro e; exact c (by exact_mod_cast (V.int.inj e)))]
                    rfl
                rw [ed]
                cases hc : decide (one ≠ slot) with
                | true =>
                  rw [if_pos hc] at fs
                  refine iteT (B := True) ?_
                  refine ⟨_, rfl, _, q, ?_, same_upd hD e, ?_⟩
                  · rw [List.length_map]
                    exact small1000 (Nat.le_trans (List.length_filter_le _ _) (Nat.le_trans (by rw [List.length_take]; exact Nat.min_le_right _ _) (by have := sz2 _ (getD_mem nl2); omega)))
                  · rw [upd_same, fs, List.map_append]
                    rfl
                | false =>
                  rw [if_neg (by rw [hc]; exact Bool.false_ne_true), List.append_nil] at fs
                  refine iteF (A := True) ?_
                  rw [fs]
                  exact ⟨e, q⟩
              · rintro H5 ⟨e5, q5⟩
                rw [List.length_map, List.take_length] at q5
                have G5 := G4.same e5
                have nl3 : n - 1 < lots2.length := by omega
                obtain ⟨lb, hlb, rb⟩ := lookLots G5 nl3
                have ei : ((n : Nat) : Int) - 1 = ((n - 1 : Nat) : Int) := by omega
                obtain ⟨f1, f2, f3, f4, f5⟩ := G4.fresh hD
                refine ⟨_, rfl, z, _, dx, _, _, rfl, G5.hz, T.c_Groups, T.n_Groups_lots, fGr_lots lo hd, _, rfl, _, _, rfl, rfl, lo, _, _, _, rfl, rfl, .of G5.hlo, by rw [ei]; exact atI_nat (map_get hlb), _, rfl, l1, fun E1 hE1 => ?_⟩
                have sE1 : Same H5 (upd H5 E1 (.lst [vi slot])) := Same.new hE1
                refine ⟨lb, E1, _, _, rfl, rfl, sE1 _ _ rb, upd_same, ?_, fun W hW => ?_⟩
                · rw [List.length_map]
                  exact le_size (by have := sz2 _ (getD_mem nl3); show _ + 1 ≤ 1000; omega)
                · have sW : Same (upd H5 E1 (.lst [vi slot])) (upd (upd H5 E1 (.lst [vi slot])) W (.lst ((lots2.getD (n - 1) []).map vi ++ [vi slot]))) := Same.new hW
                  have G6 := (G5.same sE1).same sW
                  obtain ⟨g1, g2, g3, g4, g5⟩ := (G5.same sE1).fresh hW
                  have S6 := ((S4.trans e5).trans sE1).trans sW
                  have hDW : D ≠ W := ne_of_none (sE1 _ _ q5) hW
                  have qD := sW _ _ (sE1 _ _ q5)
                  have YW : H0 W = none := ((S4.trans e5).trans sE1).free hW
                  have G7 := G6.setLot (k := n) (D := W) (ns := lots2.getD (n - 1) [] ++ [slot]) (by show upd _ _ _ _ = _; rw [upd_same, List.map_append]; rfl) g2 g3 g4 g5
                  have S7 := same_upd (o := .lst ((las2.set n W).map V.ref)) Y3.2.1 S6
                  refine ⟨_, rfl, z, _, dx, _, _, rfl, G6.hz, T.c_Groups, T.n_Groups_lots, fGr_lots lo hd, _, rfl, lo, _, _, n, rfl, rfl, G6.hlo, ixN_nat (by rw [List.length_map, G6.hls.1]; exact nl2), ?_⟩
                  rw [show (las2.map V.ref).set n (V.ref W) = (las2.set n W).map V.ref from List.map_set.symm]
                  have hDn : D ∉ las2.set n W := fun m => by
                    rcases mem_set_iff m with m | m
                    · exact f4 m
                    · exact hDW m
                  have qD7 : upd (upd (upd H5 E1 (.lst [vi slot])) W (.lst ((lots2.getD (n - 1) []).map vi ++ [vi slot]))) lo (.lst ((las2.set n W).map V.ref)) D = some (.lst (((lots2.getD n []).filter fun one => decide (one ≠ slot)).map vi)) := by
                    rw [upd_ne f2]
                    exact qD
                  have G8 := G7.setLot (k := n - 1) (D := D) (ns := (lots2.getD n []).filter fun one => decide (one ≠ slot)) qD7 f2 f3 hDn f5
                  refine ⟨_, rfl, _, rfl, z, _, dx, _, _, rfl, G7.hz, T.c_Groups, T.n_Groups_lots, fGr_lots lo hd, _, rfl, _, _, rfl, rfl, lo, _, _, n - 1, rfl, rfl, G7.hlo, by rw [ei]; exact ixN_nat (by rw [List.length_map, G7.hls.1, List.length_set]; omega), ?_⟩
                  rw [show ((las2.set n W).map V.ref).set (n - 1) (V.ref D) = ((las2.set n W).set (n - 1) D).map V.ref from List.map_set.symm]
                  exact ⟨⟨_, _, rfl⟩, _, same_upd Y3.2.1 S7, G8⟩
            · rw [if_neg hn]
              show if decide ((0 : Int) < (n : Int)) = true then _ else _
              rw [decide_eq_false (by omega)]
              refine iteF (A := True) ?_
              exact ⟨⟨_, _, rfl⟩, las2, S4, G4⟩
          · rintro σ H5 ⟨⟨v, w', rfl⟩, las3, S5, G5⟩
            exact ⟨_, rfl, k las3 has2 H5 S5 G5⟩
end
end Lk
set_option Elab.async false
set_option linter.all false
set_option maxRecDepth 100000
set_option maxHeartbeats 4000000
namespace Lk
open PySem PySem.Spec PyProof.Rows L2
open He (ga ma)
section
variable {P : Program} {w : World} {K : PySem.W.Frag} {mg : Str → Option Value} {base : Heap}
theorem mostL_succ (lots : List (List Nat)) (i : Nat) : mostL lots (i + 1) = mostL lots i ++ (if 0 < (lots.getD i []).length then [i + 1] else []) := by
  unfold mostL
  rw [List.range_succ, List.filterMap_append]
  congr 1
  by_cases h : 0 < (lots.getD i []).length
  · rw [if_pos h]
    simp only [List.filterMap_cons, List.filterMap_nil, if_pos h]
  · rw [if_neg h]
    simp only [List.filterMap_cons, List.filterMap_nil, if_neg h]
theorem mostL_len (lots : List (List Nat)) (i : Nat) : (mostL lots i).length ≤ i := by
  unfold mostL
  exact Nat.le_trans (List.length_filterMap_le _ _) (by rw [List.length_range]; exact Nat.le_refl _)
theorem foldmax : ∀ (l : List Nat) (a : Nat), a ≤ l.foldl max a ∧ (∀ y ∈ l, y ≤ l.foldl max a) ∧ (l.foldl max a = a ∨ l.foldl max a ∈ l)
  | [], a => ⟨Nat.le_refl _, by simp, .inl rfl⟩
  | b :: l, a => by
    obtain ⟨h1, h2, h3⟩ := foldmax l (max a b)
    rw [List.foldl_cons]
    have e1 : a ≤ max a b := Nat.le_max_left _ _
    have e2 : b ≤ max a b := Nat.le_max_right _ _
    refine ⟨Nat.le_trans e1 h1, fun y hy => ?_, ?_⟩
    · rcases List.mem_cons.mp hy with rfl | hy
      · exact Nat.le_trans e2 h1
      · exact h2 y hy
    · rcases h3 with h3 | h3
      · rw [h3]
        rcases Nat.le_total a b with c | c
        · rw [Nat.max_eq_right c]
          exact .inr (by simp)
        · rw [Nat.max_eq_left c]
          exact .inl rfl
      · exact .inr (List.mem_cons_of_mem _ h3)
theorem mostM_le (lots : List (List Nat)) : mostM lots ≤ lots.length := by
  rcases (foldmax (mostL lots lots.length) 0).2.2 with h | h
  · unfold mostM
    rw [h]
    exact Nat.zero_le _
  · unfold mostM
    generalize (mostL lots lots.length).foldl max 0 = m at h ⊢
    obtain ⟨k, hk, e⟩ := List.mem_filterMap.mp h
    split at e
    · cases e
      exact List.mem_range.mp hk
    · cases e
theorem ins_perm (a : Nat) : ∀ l : List Nat, (ins a l).Perm (a :: l)
  | [] => .refl _
  | b :: r => by
    unfold ins
    split
    · exact .refl _
    · exact ((ins_perm a r).cons b).trans (.swap a b r)
theorem sortN_perm : ∀ l : List Nat, (sortN l).Perm l
  | [] => .refl _
  | a :: r => (ins_perm a _).trans ((sortN_perm r).cons a)
theorem ins_sorted (a : Nat) : ∀ l : List Nat, l.Pairwise (· ≤ ·) → (ins a l).Pairwise (· ≤ ·)
  | [], _ => by simp [ins]
  | b :: r, h => by
    unfold ins
    obtain ⟨h1, h2⟩ := List.pairwise_cons.mp h
    split
    · rename_i c
      refine List.pairwise_cons.mpr ⟨fun y hy => ?_, h⟩
      rcases List.mem_cons.mp hy with rfl | hy
      · exact c
      · exact Nat.le_trans c (h1 y hy)
    · rename_i c
      refine List.pairwise_cons.mpr ⟨fun y hy => ?_, ins_sorted a r h2⟩
      rcases List.mem_cons.mp ((ins_perm a r).mem_iff.mp hy) with rfl | hy
      · omega
      · exact h1 y hy
theorem sortN_sorted : ∀ l : List Nat, (sortN l).Pairwise (· ≤ ·)
  | [] => .nil
  | a :: r => ins_sorted a _ (sortN_sorted r)
theorem sorted_eq {ns' : List Int} {l : List Nat} (p : ns'.Perm (l.map fun n : Nat => (n : Int))) (s : ns'.Pairwise (· ≤ ·)) : ns' = (sortN l).map fun n : Nat => (n : Int) := by
  refine List.Perm.eq_of_pairwise (fun _ _ _ _ a b => Int.le_antisymm a b) s ?_ (p.trans ((sortN_perm l).map _).symm)
  rw [List.pairwise_map]
  exact (sortN_sorted l).imp fun h => by exact_mod_cast h
theorem cut_take {α : Type} (f : α → V) (l : List α) {m : Nat} (h : m ≤ l.length) : cutV (l.map f) none (some ((m : Nat) : Int)) = (l.take m).map f := by
  unfold cutV
  rw [HT.sIx_none, HT.sIx_nat, List.drop_zero, Nat.sub_zero, List.length_map, Nat.min_eq_left h, List.map_take]
def spGTold (K : PySem.W.Frag) : Sp := fun vs H Q _ => ∃ (z dx lo hd : Addr) (las has : List Addr) (lots held : List (List Nat)), vs = [.ref z] ∧ GrX K H z dx lo hd las has lots held ∧ lots.length ≤ 100 ∧ (∀ lot ∈ lots, lot.length ≤ 50) ∧
  ∀ p H', Same H H' → TT2 H' p (groupsM lots) → Q (.ref p) H'
theorem ok_Groups_told (T : Tx K mg) (F : Fx K) : DefOk P w K mg base CX0 1 (ma K (ga K "Groups") "told") ["self"] (spGTold K) := by
  have nd := sc_Groups_told.nd
  refine def0 F.f_Groups_told bd_Groups_told sc_Groups_told (fun vs H Q E h => ?_) (fun cdv A outer s H vs Q E hr h => ?_)
  · obtain ⟨z, dx, lo, hd, las, has, lots, held, rfl, _⟩ := h
    rfl
  · obtain ⟨z, dx, lo, hd, las, has, lots, held, rfl, G, sl, sz, k⟩ := h
    refine ⟨_, pss_cons (ps_set (i := 1) nd rfl (Or.inl rfl) (pe_callB (cr_max rfl) (by rfl) T.b_max (by decide +kernel) (pa_cons (pe_op op_cat (pe_lst (pa_cons pe_int pa_nil))
        (pe_lc (own := [("number", 2), ("lot", 3)]) (g := gTup K 2 (gCons (gName 2) (gCons (gName 3) gNil))) (tt := tTest (tOp (rI0 fun i j => .bl (decide (j < i))) (tCB (fun xs H Q => ∃ x n, xs = [x] ∧ LenV K x H n ∧ Q (.int n) H) (tCons (tVar 3) tNil)) (tC (.int 0)))) rfl nd (pi_enum (by rfl) T.b_enumerate (pa_cons (pe_fld (pv 0) (by rfl)) pa_nil)) (blkOk_by (N := N_Groups_told) (sc := defScope s_Groups_told) (by decide +kernel))
          (fun _ _ _ _ _ => pg_tup (n := 2) rfl (pgs_cons (pg_name (i := 2) nd rfl (Or.inl rfl)) (pgs_cons (pg_name (i := 3) nd rfl (Or.inl rfl)) pgs_nil)))
          (fun _ _ _ _ _ => pts_one (pt_cmpR op_gt (pe_callB call_len (by rfl) T.b_len (by decide +kernel) (pa_cons (pv 3) pa_nil)) pe_int (nomark _)))
          (fun _ _ _ _ _ => pe_op op_add (pv 2) pe_int))) pa_nil)))
      (pss_one (ps_ret (pe_tupleOf (by rfl) T.b_tuple (pe_lc (own := [("lot", 3)]) (g := gName 3) (tt := tYes) (te := tThen (tCB (rSorted K) (tCons (tVar 3) tNil)) (kTup K)) rfl nd (pi_list (pe_slice sl_list (pe_fld (pv 0) (by rfl)) po_none (po_some (pv 1)))) (blkOk_by (N := N_Groups_told) (sc := defScope s_Groups_told) (by decide +kernel))
          (fun _ _ _ _ _ => pg_name (i := 3) nd rfl (Or.inl rfl)) (fun _ _ _ _ _ => pts_nil)
          (fun _ _ _ _ _ => pe_tupleOf (by rfl) T.b_tuple (pe_callB cr_sorted (by rfl) T.b_sorted (by decide +kernel) (pa_cons (pv 3) pa_nil))))))), ?_⟩
    refine ⟨l1, fun e0 he0 => ?_⟩
    have s0 : Same H (upd H e0 (.lst [.int 0])) := Same.new he0
    have G0 := G.same s0
    have q0 : upd H e0 (.lst [.int 0]) e0 = some (.lst [.int 0]) := upd_same
    generalize upd H e0 (.lst [.int 0]) = H0 at s0 G0 q0 ⊢
    refine ⟨_, rfl, z, _, dx, _, _, rfl, G0.hz, T.c_Groups, T.n_Groups_lots, fGr_lots lo hd, lo, _, rfl, .of G0.hlo, fun D hD => lc_enum (K := K) (a := lo) (xs := las.map V.ref)
      (fun i H' => Same H0 H' ∧ H' D = some (.lst ((mostL lots i).map vi))) ⟨Same.new hD, upd_same⟩ (fun i H' ⟨e, _⟩ => .of (e _ _ G0.hlo)) ?_ ?_⟩
    · rintro i y t H' hi ⟨e, q⟩ ht
      obtain ⟨la, hla, rfl⟩ := get_map hi
      obtain ⟨lot, hlot, r⟩ := G0.hls.get' hla
      have st : Same H' (upd H' t (.tup [.int (i : Nat), .ref la])) := Same.new ht
      refine ⟨t, _, rfl, .of upd_same, rfl, _, _, rfl, _, _, rfl, rfl, rfl, ?_⟩
      refine ⟨_, rfl, _, _, rfl, .inl ⟨_, .of (st _ _ (e _ _ r)), rfl⟩, _, _, rfl, rfl, _, rfl, ?_⟩
      have ms := mostL_succ lots i
      rw [List.getD_eq_getElem?_getD, hlot, Option.getD_some] at ms
      rw [List.length_map]
      by_cases hp : 0 < lot.length
      · rw [decide_eq_true (by exact_mod_cast hp)]
        rw [if_pos hp] at ms
        refine iteT (B := True) ?_
        refine ⟨_, rfl, _, _, rfl, rfl, _, st _ _ q, ?_, same_upd hD (e.trans st), ?_⟩
        · rw [List.length_map]
          have h1 := mostL_len lots i
          have h2 : i < las.length := (List.getElem?_eq_some_iff.mp hla).1
          rw [G.hls.1] at h2
          exact small1000 (by omega)
        · rw [upd_same, ms, List.map_append]
          rfl
      · rw [decide_eq_false (by omega)]
        rw [if_neg hp, List.append_nil] at ms
        refine iteF (A := True) ?_
        rw [ms]
        exact ⟨e.trans st, st _ _ q⟩
    · rintro H1 ⟨e1, q1⟩
      rw [List.length_map, G.hls.1] at q1
      have G1 := G0.same e1
      have ll : (mostL lots lots.length).length ≤ 100 := Nat.le_trans (mostL_len _ _) sl
      refine ⟨e0, D, _, _, rfl, rfl, e1 _ _ q0, q1, by rw [List.length_map]; exact le_size (by show 1 + _ ≤ 1000; omega), fun m hm => ?_⟩
      have sm : Same H1 (upd H1 m (.lst ([V.int 0] ++ (mostL lots lots.length).map vi))) := Same.new hm
      refine ⟨m, (0 :: mostL lots lots.length).map (fun n : Nat => (n : Int)), rfl, .of (by rw [upd_same, List.map_map]; rfl), by simp, fun M hM hle => ?_⟩
      have eM : M = ((mostM lots : Nat) : Int) := by
        obtain ⟨h1, h2, h3⟩ := foldmax (mostL lots lots.length) 0
        obtain ⟨M', hM', rfl⟩ := List.mem_map.mp hM
        have a1 : M' ≤ mostM lots := by
          rcases List.mem_cons.mp hM' with rfl | c
          · exact Nat.zero_le _
          · exact h2 _ c
        have a2 : ((mostM lots : Nat) : Int) ≤ (M' : Int) := hle _ (List.mem_map.mpr ⟨mostM lots, by
          rcases h3 with h3 | h3
          · unfold mostM
            rw [h3]
            simp
          · exact List.mem_cons_of_mem _ h3, rfl⟩)
        omega
      rw [eM]
      have G2 := G1.same sm
      have S2 := (s0.trans e1).trans sm
      generalize upd H1 m (.lst ([V.int 0] ++ (mostL lots lots.length).map vi)) = H2 at G2 S2 ⊢
      refine ⟨_, rfl, z, _, dx, _, _, rfl, G2.hz, T.c_Groups, T.n_Groups_lots, fGr_lots lo hd, _, rfl, _, rfl, lo, _, rfl, .of G2.hlo, fun L hL => ?_⟩
      rw [cut_take V.ref las (by rw [G.hls.1]; exact mostM_le lots)]
      have sL : Same H2 (upd H2 L (.lst ((las.take (mostM lots)).map V.ref))) := Same.new hL
      have G3 := G2.same sL
      have hL3 : upd H2 L (.lst ((las.take (mostM lots)).map V.ref)) L = some (.lst ((las.take (mostM lots)).map V.ref)) := upd_same
      have S3 := S2.trans sL
      generalize upd H2 L (.lst ((las.take (mostM lots)).map V.ref)) = H3 at G3 hL3 S3 ⊢
      refine ⟨L, rfl, ⟨_, .of hL3⟩, fun D2 hD2 => lc_list (K := K) (a := L) (xs := (las.take (mostM lots)).map V.ref) (fun i H' => Same H3 H' ∧ ∃ as : List Addr, H' D2 = some (.lst (as.map V.ref)) ∧ AllAt (TN H') as (((lots.take (mostM lots)).take i).map sortN))
        ⟨Same.new hD2, [], upd_same, .nil⟩ (fun i H' _ ⟨e, _⟩ => .of (e _ _ hL3)) ?_ ?_⟩
      · rintro i y H' hi ⟨e, as, q, ra⟩
        obtain ⟨la, hla, rfl⟩ := get_map hi
        obtain ⟨lot, hlot, r⟩ := (G3.hls.take (mostM lots)).get' hla
        have ml : lot ∈ lots := List.mem_of_mem_take (List.mem_of_getElem? hlot)
        refine ⟨rfl, ?_⟩
        refine iteT (B := True) ?_
        refine ⟨_, rfl, la, lot.map (fun n : Nat => (n : Int)), rfl, .of (by rw [List.map_map]; exact e _ _ r), by rw [List.length_map]; have := sz lot ml; omega, fun ns' p hp hs hpn => ?_⟩
        have en := sorted_eq hp hs
        subst en
        have s1 : Same H' (upd H' p (.lst (((sortN lot).map (fun n : Nat => (n : Int))).map V.int))) := Same.new hpn
        refine .inl ⟨p, _, rfl, .of upd_same, fun t ht => ?_⟩
        have s2 := s1.trans (Same.new (o := .tup (((sortN lot).map (fun n : Nat => (n : Int))).map V.int)) ht)
        refine ⟨_, s2 _ _ q, ?_, same_upd hD2 (e.trans s2), as ++ [t], ?_, ?_⟩
        · rw [List.length_map, ra.1, List.length_map]
          have h0 := sl
          exact small1000 (by
            have h1 := List.length_take_le i (lots.take (mostM lots))
            have h2 := List.length_take_le' (mostM lots) lots
            have h3 := List.length_take_le' i (lots.take (mostM lots))
            omega)
        · rw [upd_same, List.map_append]
          rfl
        · rw [take_snoc hlot, List.map_append]
          have sx : ∀ u, u ≠ D2 → ∀ o, upd (upd H' p (.lst (((sortN lot).map (fun n : Nat => (n : Int))).map V.int))) t (.tup (((sortN lot).map (fun n : Nat => (n : Int))).map V.int)) u = some o → upd (upd (upd H' p (.lst (((sortN lot).map (fun n : Nat => (n : Int))).map V.int))) t (.tup (((sortN lot).map (fun n : Nat => (n : Int))).map V.int))) D2 (.lst (as.map V.ref ++ [.ref t])) u = some o := fun u hu o h => by
            rw [upd_ne hu]
            exact h
          refine (ra.imp fun u v r => sx u (ne_of r q (by intro c; cases c)) _ (s2 _ _ r)).snoc (sx t (ne_of_none (s1 _ _ q) ht).symm _ ?_)
          rw [upd_same, List.map_map]
          rfl
      · rintro H4 ⟨e4, as, q4, ra⟩
        rw [List.length_map, List.length_take, G.hls.1, Nat.min_eq_left (mostM_le lots), List.take_take, Nat.min_self] at ra
        refine .inl ⟨D2, _, rfl, .of q4, fun p hp => k p _ ((S3.trans e4).trans (Same.new hp)) ⟨as, upd_same, ra.imp fun u v r => TN.same (Same.new hp) r⟩⟩
end
end Lk
set_option Elab.async false
set_option linter.all false
set_option maxRecDepth 100000
set_option maxHeartbeats 4000000
namespace Lk
open PySem PySem.Spec PyProof.Rows L2
open He (ga ma)
section
variable {P : Program} {w : World} {K : PySem.W.Frag} {mg : Str → Option Value} {base : Heap}
structure LotOk (k : Nat) (lots held : List (List Nat)) : Prop where
  sl : lots.length ≤ k
  sh : held.length ≤ k
  lz : ∀ lot ∈ lots, lot.length ≤ k
  inr : ∀ lot ∈ lots, ∀ s ∈ lot, s < held.length
  ne : ∀ row ∈ held, row ≠ []
  hz : ∀ row ∈ held, row.length ≤ k
theorem getD_set {l : List (List Nat)} {i j : Nat} {a : List Nat} : (l.set i a).getD j [] = if i = j ∧ j < l.length then a else l.getD j [] := by
  rw [List.getD_eq_getElem?_getD, List.getElem?_set, List.getD_eq_getElem?_getD]
  by_cases h : i = j
  · subst h
    rw [if_pos rfl]
    by_cases h2 : i < l.length
    · rw [if_pos h2, if_pos ⟨rfl, h2⟩]
      rfl
    · rw [if_neg h2, if_neg (fun c => h2 c.2), List.getElem?_eq_none (by omega)]
  · rw [if_neg h, if_neg (fun c => h c.1)]
theorem getD_all {p : List Nat → Prop} {l : List (List Nat)} (h : ∀ a ∈ l, p a) (h0 : p []) (k : Nat) : p (l.getD k []) := by
  rw [List.getD_eq_getElem?_getD]
  cases e : l[k]? with
  | none => exact h0
  | some a => exact h a (List.mem_of_getElem? e)
theorem set_all {α : Type} {p : α → Prop} {l : List α} {k : Nat} {a : α} (h : ∀ b ∈ l, p b) (ha : p a) : ∀ b ∈ l.set k a, p b := fun b m => by
  rcases mem_set_iff m with m | rfl
  · exact h b m
  · exact ha
theorem app_all {α : Type} {p : α → Prop} {l : List α} {a : α} (h : ∀ b ∈ l, p b) (ha : p a) : ∀ b ∈ l ++ [a], p b := fun b m => by
  rcases List.mem_append.mp m with m | m
  · exact h b m
  · rw [List.mem_singleton.mp m]
    exact ha
/-- the holders behind put: x at the end of a row, or in a new row -/
theorem putM_held (bits : List Nat) (lots held : List (List Nat)) (x : Nat) (hin : ∀ lot ∈ lots, ∀ s ∈ lot, s < held.length) :
    ((putM bits lots held x).2.2 = held.length ∧ (putM bits lots held x).2.1 = held ++ [[x]]) ∨
    ((putM bits lots held x).2.2 < held.length ∧ (putM bits lots held x).2.1 = held.set (putM bits lots held x).2.2 (held.getD (putM bits lots held x).2.2 [] ++ [x]) ∧ oneM bits x ((held.getD (putM bits lots held x).2.2 []).getLastD 0) = true) := by
  unfold putM
  have tl := taken_le (fitM bits held x) lots 0
  cases hq : takenM (fitM bits held x) 0 lots with
  | mk n o =>
    simp only [hq] at tl ⊢
    cases o with
    | none =>
      refine .inl ⟨rfl, ?_⟩
      show (held ++ [[]]).set held.length ((held ++ [[]]).getD held.length [] ++ [x]) = held ++ [[x]]
      rw [List.getD_eq_getElem?_getD, List.getElem?_append_right (Nat.le_refl _), List.set_append_right _ _ (Nat.le_refl _)]
      simp
    | some sl =>
      obtain ⟨_, lot, m, e⟩ := tl.2 sl rfl
      refine .inr ⟨hin lot m sl (fitM_mem e), rfl, ?_⟩
      exact (List.mem_filter.mp (List.min?_eq_some_iff.mp e).1).2
theorem putM_ok {bits : List Nat} {lots held : List (List Nat)} {x k : Nat} (h : LotOk k lots held) : LotOk (k + 1) (putM bits lots held x).1 (putM bits lots held x).2.1 ∧ (putM bits lots held x).2.2 < (putM bits lots held x).2.1.length := by
  have hh := putM_held bits lots held x h.inr
  have hlen : held.length ≤ (putM bits lots held x).2.1.length ∧ (putM bits lots held x).2.2 < (putM bits lots held x).2.1.length := by
    rcases hh with ⟨a, b⟩ | ⟨a, b, _⟩
    · rw [b, a, List.length_append]
      simp
    · rw [b, List.length_set]
      exact ⟨Nat.le_refl _, a⟩
  refine ⟨⟨?_, ?_, ?_, ?_, ?_, ?_⟩, hlen.2⟩
  · have tl := taken_le (fitM bits held x) lots 0
    unfold putM
    have := h.sl
    simp only []
    split
    · rw [List.length_set, List.length_set]
      split
      · split
        · rw [List.length_append]; simp; omega
        · omega
      · rw [List.length_set]
        split
        · rw [List.length_append]; simp; omega
        · omega
    · split
      · split
        · rw [List.length_append]; simp; omega
        · omega
      · rw [List.length_set]
        split
        · rw [List.length_append]; simp; omega
        · omega
  · have := h.sh
    rcases hh with ⟨a, b⟩ | ⟨a, b, _⟩
    · rw [b, List.length_append]; simp; omega
    · rw [b, List.length_set]; omega
  · -- sizes
    unfold putM
    simp only []
    have z1 : ∀ lot ∈ (if (takenM (fitM bits held x) 0 lots).1 = lots.length then lots ++ [[]] else lots), lot.length ≤ k := by
      split
      · exact app_all h.lz (Nat.zero_le _)
      · exact h.lz
    generalize (if (takenM (fitM bits held x) 0 lots).1 = lots.length then lots ++ [[]] else lots) = lots1 at z1 ⊢
    generalize (takenM (fitM bits held x) 0 lots).1 = n
    generalize (takenM (fitM bits held x) 0 lots).2 = o
    have z0 : ∀ j, (lots1.getD j []).length ≤ k := fun j => getD_all (p := fun l => l.length ≤ k) z1 (Nat.zero_le _) j
    have z2 : ∀ lot ∈ (if o.isSome = true then lots1 else lots1.set n (lots1.getD n [] ++ [o.getD held.length])), lot.length ≤ k + 1 := by
      split
      · exact fun lot m => Nat.le_succ_of_le (z1 lot m)
      · exact set_all (fun lot m => Nat.le_succ_of_le (z1 lot m)) (by rw [List.length_append]; exact Nat.succ_le_succ (z0 n))
    by_cases hn : 0 < n
    · rw [if_pos hn]
      refine set_all (set_all z2 ?_) ?_
      · rw [List.length_append]
        refine Nat.succ_le_succ ?_
        split
        · exact z0 _
        · rw [getD_set, if_neg (fun c => by omega)]
          exact z0 _
      · refine Nat.le_trans (List.length_filter_le _ _) ?_
        exact getD_all (p := fun l => l.length ≤ k + 1) z2 (Nat.zero_le _) n
    · rw [if_neg hn]
      exact z2
  · -- range
    have hsl := hlen.2
    have hle := hlen.1
    generalize hH : (putM bits lots held x).2.1.length = L at hsl hle ⊢
    unfold putM at hsl ⊢
    simp only [] at hsl ⊢
    have z1 : ∀ lot ∈ (if (takenM (fitM bits held x) 0 lots).1 = lots.length then lots ++ [[]] else lots), ∀ s ∈ lot, s < L := by
      split
      · exact app_all (fun lot m s ms => Nat.lt_of_lt_of_le (h.inr lot m s ms) hle) (by simp)
      · exact fun lot m s ms => Nat.lt_of_lt_of_le (h.inr lot m s ms) hle
    generalize (if (takenM (fitM bits held x) 0 lots).1 = lots.length then lots ++ [[]] else lots) = lots1 at z1 ⊢
    generalize (takenM (fitM bits held x) 0 lots).1 = n
    generalize (takenM (fitM bits held x) 0 lots).2.getD held.length = slot at hsl ⊢
    generalize (takenM (fitM bits held x) 0 lots).2 = o
    have z0 : ∀ j, ∀ s ∈ lots1.getD j [], s < L := fun j => getD_all (p := fun l => ∀ s ∈ l, s < L) z1 (by simp) j
    have z2 : ∀ lot ∈ (if o.isSome = true then lots1 else lots1.set n (lots1.getD n [] ++ [slot])), ∀ s ∈ lot, s < L := by
      split
      · exact z1
      · exact set_all z1 (app_all (z0 n) hsl)
    have z3 : ∀ j, ∀ s ∈ (if o.isSome = true then lots1 else lots1.set n (lots1.getD n [] ++ [slot])).getD j [], s < L := fun j => getD_all (p := fun l => ∀ s ∈ l, s < L) z2 (by simp) j
    split
    · exact set_all (set_all z2 (app_all (z3 _) hsl)) (fun s m => z3 n s (List.mem_filter.mp m).1)
    · exact z2
  · rcases hh with ⟨a, b⟩ | ⟨a, b, _⟩
    · rw [b]
      exact app_all h.ne (by simp)
    · rw [b]
      exact set_all h.ne (by simp)
  · rcases hh with ⟨a, b⟩ | ⟨a, b, _⟩
    · rw [b]
      exact app_all (fun r m => Nat.le_succ_of_le (h.hz r m)) (by simp)
    · rw [b]
      refine set_all (fun r m => Nat.le_succ_of_le (h.hz r m)) ?_
      rw [List.length_append]
      exact Nat.succ_le_succ (getD_all (p := fun l => l.length ≤ k) h.hz (Nat.zero_le _) _)
theorem run_ok (rows : List (List Nat)) : LotOk rows.length (runM rows).lots (runM rows).held := by
  induction rows using snocInd with
  | h0 => exact ⟨Nat.zero_le _, Nat.zero_le _, by simp [runM, m0], by simp [runM, m0], by simp [runM, m0], by simp [runM, m0]⟩
  | h1 rows r ih =>
    rw [runM_snoc, List.length_append]
    exact (putM_ok ih).1
theorem LotOk.gr {k : Nat} {lots held : List (List Nat)} (h : LotOk k lots held) (hk : k ≤ 50) : GrOk lots held :=
  ⟨h.inr, h.ne, Nat.le_trans h.sl (by omega), Nat.le_trans h.sh (by omega), fun lot m => Nat.le_trans (h.lz lot m) hk⟩
end
end Lk
set_option Elab.async false
set_option linter.all false
set_option maxRecDepth 100000
set_option maxHeartbeats 4000000
namespace Lk
open PySem PySem.Spec PyProof.Rows L2
open He (ga ma)
section
variable {P : Program} {w : World} {K : PySem.W.Frag} {mg : Str → Option Value} {base : Heap}
def scEnt : Scope := { kind := .function, names := [(".0", .local), ("row", .local), ("len", .globalImplicit), ("book", .free), ("x", .free)], isGenerator := false, isCoroutine := false }
def spEnt (K : PySem.W.Frag) : Sp := fun vs H Q _ => ∃ (b l g : Addr) (has : List Addr) (held rows : List (List Nat)) (x : Nat), vs = [.ref b, .ref l, vi x] ∧ BookAt K g H b rows ∧ x < rows.length ∧ H l = some (.lst (has.map V.ref)) ∧ AllAt (LN H) has held ∧
  held.length ≤ 100 ∧ (∀ row ∈ held, row.length ≤ 50) ∧ ∀ p H', Same H H' → TN H' p (entM (runM rows).bits held x) → Q (.ref p) H'
theorem ok_entries_of (T : Tx K mg) (F : Fx K) : DefOk P w K mg base CX0 2 (ga K "entries_of") ["book", "held", "x"] (spEnt K) := by
  have D1 := ok_is_one (P := P) (w := w) (base := base) T F
  have nd := sc_entries_of.nd
  refine def0 F.f_entries_of bd_entries_of sc_entries_of (fun vs H Q E h => ?_) (fun cdv A outer s H vs Q E hr h => ?_)
  · obtain ⟨b, l, g, has, held, rows, x, rfl, _⟩ := h
    rfl
  · obtain ⟨b, l, g, has, held, rows, x, rfl, B, hx, hl, ha, sh, sr, k⟩ := h
    refine ⟨_, pss_one (ps_ret (pe_tupleOf (by rfl) T.b_tuple (pe_lc (own := [("row", 3)]) (g := gName 3) (tt := tYes)
        (te := tCB (fun xs H Q => ∃ x n, xs = [x] ∧ LenV K x H n ∧ Q (.int n) H) (tCons (tLc (iList K (tVar 3)) (gName 4) (tB (cCall (spIsOne K) E0 (tCons (tVar 0) (tCons (tVar 2) (tCons (tVar 4) tNil))))) (tVar 4) [4]) tNil)) rfl nd (pi_list (pv 1)) (blkOk_by (N := N_entries_of) (sc := defScope s_entries_of) (by decide +kernel))
          (fun _ _ _ _ _ => pg_name (i := 3) nd rfl (Or.inl rfl)) (fun _ _ _ _ _ => pts_nil)
          (fun _ _ _ _ _ => pe_callB call_len (by rfl) T.b_len (by decide +kernel) (pa_cons (pe_lc (own := [("kind", 4)]) (g := gName 4) rfl nd (pi_list (pv 3)) (blkOk_by (N := N_entries_of) (sc := relS scEnt (defScope s_entries_of)) (by decide +kernel))
              (fun _ _ _ _ _ => pg_name (i := 4) nd rfl (Or.inl rfl)) (fun _ _ _ _ _ => pts_one (pt_val (pe_cal D1 hr (by rfl) T.g_is_one pass0 (pa_cons (pv 0) (pa_cons (pv 2) (pa_cons (pv 4) pa_nil)))))) (fun _ _ _ _ _ => pv 4)) pa_nil))))), ?_⟩
    refine ⟨_, rfl, l, rfl, ⟨_, .of hl⟩, fun D hD => lc_list (K := K) (a := l) (xs := has.map V.ref) (fun i H' => Same H H' ∧ H' D = some (.lst (((held.take i).map fun row => (row.filter fun kind => oneM (runM rows).bits x kind).length).map vi)))
      ⟨Same.new hD, upd_same⟩ (fun i H' _ ⟨e, _⟩ => .of (e _ _ hl)) ?_ ?_⟩
    · rintro i y H1 hi ⟨e, q⟩
      obtain ⟨la, hla, rfl⟩ := get_map hi
      obtain ⟨row, hrow, r⟩ := ha.get' hla
      have mr := List.mem_of_getElem? hrow
      refine ⟨rfl, ?_⟩
      refine iteT (B := True) ?_
      refine ⟨_, rfl, la, rfl, ⟨_, .of (e _ _ r)⟩, fun D2 hD2 => lc_list (K := K) (a := la) (xs := row.map vi) (fun j H' => Same H1 H' ∧ H' D2 = some (.lst (((row.take j).filter fun kind => oneM (runM rows).bits x kind).map vi)))
        ⟨Same.new hD2, upd_same⟩ (fun j H' _ ⟨e2, _⟩ => .of (e2 _ _ (e _ _ r))) ?_ ?_⟩
      · rintro j y H2 hj ⟨e2, q2⟩
        obtain ⟨kind, hk, rfl⟩ := get_map hj
        have fs := filter_snoc (fun kind => oneM (runM rows).bits x kind) hk
        refine ⟨rfl, ?_⟩
        refine ⟨_, rfl, _, rfl, _, rfl, b, g, rows, x, kind, rfl, B.same (e.trans e2), hx, _, rfl, ?_⟩
        cases hc : oneM (runM rows).bits x kind with
        | true =>
          rw [if_pos hc] at fs
          refine iteT (B := True) ?_
          refine ⟨_, rfl, _, q2, ?_, same_upd hD2 e2, ?_⟩
          · rw [List.length_map]
            exact small1000 (Nat.le_trans (List.length_filter_le _ _) (Nat.le_trans (by rw [List.length_take]; exact Nat.min_le_right _ _) (by have := sr row mr; omega)))
          · rw [upd_same, fs, List.map_append]
            rfl
        | false =>
          rw [if_neg (by rw [hc]; exact Bool.false_ne_true), List.append_nil] at fs
          refine iteF (A := True) ?_
          rw [fs]
          exact ⟨e2, q2⟩
      · rintro H2 ⟨e2, q2⟩
        rw [List.length_map, List.take_length] at q2
        refine ⟨_, _, rfl, .inl ⟨_, .of q2, rfl⟩, _, e2 _ _ q, ?_, same_upd hD (e.trans e2), ?_⟩
        · rw [List.length_map, List.length_map, List.length_take]
          exact small1000 (by omega)
        · rw [upd_same, take_snoc hrow, List.map_append, List.map_append, List.length_map]
          rfl
    · rintro H1 ⟨e, q⟩
      rw [List.length_map, ha.1, List.take_length] at q
      exact .inl ⟨D, _, rfl, .of q, fun p hp => k p _ (e.trans (Same.new hp)) upd_same⟩
def spFirst (K : PySem.W.Frag) : Sp := fun vs H Q _ => ∃ (g : Addr) (o : HO), vs = [] ∧ H g = some o ∧
  ∀ s H', Same H H' → (∃ b t l h : Addr, H' s = some (.tup [.ref b, .ref t, .ref l, .ref h]) ∧ BookAt K g H' b [] ∧ TTr H' t [] ∧ TT2 H' l [] ∧ TT2 H' h []) → Q (.ref s) H'
theorem ok_first_step (T : Tx K mg) (F : Fx K) : DefOk P w K mg base CX0 5 (ga K "first_step") [] (spFirst K) := by
  have D1 := ok_book_of (P := P) (w := w) (base := base) T F
  refine def0 F.f_first_step bd_first_step sc_first_step (fun vs H Q E h => ?_) (fun cdv A outer s H vs Q E hr h => ?_)
  · obtain ⟨g, o, rfl, _⟩ := h
    rfl
  · obtain ⟨g, o, rfl, hg, k⟩ := h
    refine ⟨_, pss_one (ps_ret (pe_tup (pa_cons (pe_cal D1 hr (by rfl) T.g_book_of pass0 (pa_cons (pe_tup pa_nil) pa_nil)) (pa_cons (pe_tup pa_nil) (pa_cons (pe_tup pa_nil) (pa_cons (pe_tup pa_nil) pa_nil)))))), ?_⟩
    refine ⟨l0, fun z hz => ⟨z, g, o, rfl, upd_same, Same.new hz _ _ hg, fun b H1 s1 B => ⟨l0, fun t ht => ⟨l0, fun l hl => ⟨l0, fun h hh => ⟨l4, fun s hs => ?_⟩⟩⟩⟩⟩⟩
    have s2 := Same.new (o := .tup []) ht
    have s3 := s2.trans (Same.new (o := .tup []) hl)
    have s4 := s3.trans (Same.new (o := .tup []) hh)
    have s5 := s4.trans (Same.new (o := .tup [V.ref b, V.ref t, V.ref l, V.ref h]) hs)
    refine k s _ (((Same.new hz).trans s1).trans s5) ⟨b, t, l, h, upd_same, B.same s5, ⟨[], ?_, .nil⟩, ⟨[], ?_, .nil⟩, ⟨[], ?_, .nil⟩⟩
    · exact Same.new hs _ _ (Same.new hh _ _ (Same.new hl _ _ upd_same))
    · exact Same.new hs _ _ (Same.new hh _ _ upd_same)
    · exact Same.new hs _ _ upd_same
end
end Lk
set_option Elab.async false
set_option linter.all false
set_option maxRecDepth 100000
set_option maxHeartbeats 4000000
namespace Lk
open PySem PySem.Spec PyProof.Rows L2
open He (ga ma)
section
variable {P : Program} {w : World} {K : PySem.W.Frag} {mg : Str → Option Value} {base : Heap}
def StepAt (K : PySem.W.Frag) (g : Addr) (H : Hp) (s : Addr) (rows : List (List Nat)) : Prop :=
  ∃ b t l h : Addr, H s = some (.tup [.ref b, .ref t, .ref l, .ref h]) ∧ BookAt K g H b rows ∧ TTr H t (runM rows).trip ∧ TT2 H l (runM rows).lots ∧ TT2 H h (runM rows).held
theorem StepAt.same {K : PySem.W.Frag} {g : Addr} {H H' : Hp} {s : Addr} {rows : List (List Nat)} (e : Same H H') (h : StepAt K g H s rows) : StepAt K g H' s rows := by
  obtain ⟨b, t, l, k, h1, h2, h3, h4, h5⟩ := h
  exact ⟨b, t, l, k, e _ _ h1, h2.same e, h3.same e, h4.same e, h5.same e⟩
def spNext (K : PySem.W.Frag) : Sp := fun vs H Q _ => ∃ (s a g : Addr) (o : HO) (rows : List (List Nat)) (r : List Nat), vs = [.ref s, .ref a] ∧ StepAt K g H s rows ∧ TN H a r ∧ (∀ p ∈ r, p < rows.length) ∧ rows.length ≤ 20 ∧ H g = some o ∧
  ∀ s' H', Same H H' → StepAt K g H' s' (rows ++ [r]) → Q (.ref s') H'
theorem ok_next_step (T : Tx K mg) (F : Fx K) : DefOk P w K mg base CX0 5 (ga K "next_step") ["step", "parents"] (spNext K) := by
  have D1 := ok_grown (P := P) (w := w) (base := base) T F
  have D2 := ok_groups_from (P := P) (w := w) (base := base) T F
  have D3 := ok_Groups_put (P := P) (w := w) (base := base) T F
  have D4 := ok_entries_of (P := P) (w := w) (base := base) T F
  have nd := sc_next_step.nd
  refine def0 F.f_next_step bd_next_step sc_next_step (fun vs H Q E h => ?_) (fun cdv A outer s0 H vs Q E hr h => ?_)
  · obtain ⟨s, a, g, o, rows, r, rfl, _⟩ := h
    rfl
  · obtain ⟨s, a, g, o, rows, r, rfl, ⟨b, t, l, h, e1, e2, ⟨ts, e3, e3'⟩, e4, e5⟩, ha, hp, hl, hg, k⟩ := h
    refine ⟨_, pss_cons (ps_asg (pv 0) (pg_tup (n := 4) rfl (pgs_cons (pg_name (i := 2) nd rfl (Or.inl rfl)) (pgs_cons (pg_name (i := 3) nd rfl (Or.inl rfl)) (pgs_cons (pg_name (i := 4) nd rfl (Or.inl rfl)) (pgs_cons (pg_name (i := 5) nd rfl (Or.inl rfl)) pgs_nil))))))
      (pss_cons (ps_set (i := 6) nd rfl (Or.inl rfl) (pe_callB call_len (by rfl) T.b_len (by decide +kernel) (pa_cons (pv 3) pa_nil)))
      (pss_cons (ps_set (i := 7) nd rfl (Or.inl rfl) (pe_cal D1 hr (by rfl) T.g_grown pass0 (pa_cons (pv 2) (pa_cons (pv 1) pa_nil))))
      (pss_cons (ps_set (i := 8) nd rfl (Or.inl rfl) (pe_cal (D2.mono (by decide : 3 ≤ 4)) hr (by rfl) T.g_groups_from pass0 (pa_cons (pv 4) (pa_cons (pv 5) pa_nil))))
      (pss_cons (ps_set (i := 9) nd rfl (Or.inl rfl) (pe_met (pv 8) T.c_Groups T.m_Groups_put D3 hr pass0 (pa_cons (pv 7) (pa_cons (pv 6) pa_nil))))
      (pss_cons (ps_set (i := 10) nd rfl (Or.inl rfl) (pe_tup (pa_cons (pv 9) (pa_cons (pe_callB call_len (by rfl) T.b_len (by decide +kernel) (pa_cons (pe_ix ix_list (pe_fld (pv 8) (by rfl)) (pv 9) (fun _ _ => rfl)) pa_nil))
          (pa_cons (pe_cal (D4.mono (by decide : 2 ≤ 4)) hr (by rfl) T.g_entries_of pass0 (pa_cons (pv 7) (pa_cons (pe_fld (pv 8) (by rfl)) (pa_cons (pv 6) pa_nil)))) pa_nil)))))
      (pss_cons (ps_set (i := 11) nd rfl (Or.inl rfl) (pe_tupleOf (by rfl) T.b_tuple (pe_lc (own := [("lot", 13)]) (g := gName 13) (tt := tYes) (te := tThen (tVar 13) (kTup K)) rfl nd (pi_list (pe_fld (pv 8) (by rfl))) (blkOk_by (N := N_next_step) (sc := defScope s_next_step) (by decide +kernel))
          (fun _ _ _ _ _ => pg_name (i := 13) nd rfl (Or.inl rfl)) (fun _ _ _ _ _ => pts_nil) (fun _ _ _ _ _ => pe_tupleOf (by rfl) T.b_tuple (pv 13)))))
      (pss_cons (ps_set (i := 12) nd rfl (Or.inl rfl) (pe_tupleOf (by rfl) T.b_tuple (pe_lc (own := [("row", 14)]) (g := gName 14) (tt := tYes) (te := tThen (tVar 14) (kTup K)) rfl nd (pi_list (pe_fld (pv 8) (by rfl))) (blkOk_by (N := N_next_step) (sc := defScope s_next_step) (by decide +kernel))
          (fun _ _ _ _ _ => pg_name (i := 14) nd rfl (Or.inl rfl)) (fun _ _ _ _ _ => pts_nil) (fun _ _ _ _ _ => pe_tupleOf (by rfl) T.b_tuple (pv 14)))))
      (pss_one (ps_ret (pe_tup (pa_cons (pv 7) (pa_cons (pe_op op_catA (pv 3) (pe_tup (pa_cons (pv 10) pa_nil))) (pa_cons (pv 11) (pa_cons (pv 12) pa_nil)))))))))))))), ?_⟩
    have RO := run_ok rows
    have tlen : (runM rows).trip.length = rows.length := (bits_len rows).2
    have est : L2.start N_next_step [V.ref s, V.ref a] = [some (.ref s), some (.ref a), none, none, none, none, none, none, none, none, none, none, none, none, none] := rfl
    rw [est]
    refine ⟨_, rfl, s, _, rfl, .of e1, rfl, _, _, rfl, _, _, rfl, _, _, rfl, _, _, rfl, rfl, ?_⟩
    simp only [List.set_cons_succ, List.set_cons_zero]
    refine ⟨_, rfl, _, _, rfl, .inr ⟨_, .of e3, rfl⟩, ?_⟩
    rw [List.length_map, e3'.1, tlen]
    simp only [gName, List.set_cons_succ, List.set_cons_zero]
    refine ⟨_, rfl, _, rfl, b, a, g, o, rows, r, rfl, e2, ha, hp, by omega, hg, fun b1 H1 s1 B1 => ?_⟩
    simp only [gName, List.set_cons_succ, List.set_cons_zero]
    refine ⟨_, rfl, _, rfl, l, h, _, _, rfl, e4.same s1, e5.same s1, Nat.le_trans RO.sl (by omega), Nat.le_trans RO.sh (by omega), fun z dx lo hd las has H2 s2 G2 Y2 => ?_⟩
    simp only [gName, List.set_cons_succ, List.set_cons_zero]
    have hx : rows.length < (rows ++ [r]).length := by rw [List.length_append]; simp
    refine ⟨_, rfl, z, dx, _, rfl, G2.hz, rfl, _, rfl, _, rfl, H1, z, b1, g, dx, lo, hd, las, has, _, _, rows ++ [r], rows.length, rfl, G2, RO.gr (by omega), B1, hx, fun row m => Nat.le_trans (RO.hz row m) (by omega), s2, Y2, fun las' has' H3 s3 G3 => ?_⟩
    have PO := putM_ok (bits := (runM (rows ++ [r])).bits) (x := rows.length) RO
    have en : runM (rows ++ [r]) = { bits := (runM (rows ++ [r])).bits, trip := (runM rows).trip ++ [((putM (runM (rows ++ [r])).bits (runM rows).lots (runM rows).held rows.length).2.2, ((putM (runM (rows ++ [r])).bits (runM rows).lots (runM rows).held rows.length).2.1.getD (putM (runM (rows ++ [r])).bits (runM rows).lots (runM rows).held rows.length).2.2 []).length, entM (runM (rows ++ [r])).bits (putM (runM (rows ++ [r])).bits (runM rows).lots (runM rows).held rows.length).2.1 rows.length)], lots := (putM (runM (rows ++ [r])).bits (runM rows).lots (runM rows).held rows.length).1, held := (putM (runM (rows ++ [r])).bits (runM rows).lots (runM rows).held rows.length).2.1 } := by
      rw [runM_snoc]
      unfold nextM
      simp only [tlen]
    have e6 : (runM (rows ++ [r])).trip = _ := congrArg M.trip en
    have e7 : (runM (rows ++ [r])).lots = _ := congrArg M.lots en
    have e8 : (runM (rows ++ [r])).held = _ := congrArg M.held en
    simp only [] at e6 e7 e8
    generalize hpm : putM (runM (rows ++ [r])).bits (runM rows).lots (runM rows).held rows.length = pm at G3 PO e6 e7 e8
    obtain ⟨lots', held', slot⟩ := pm
    simp only [] at G3 PO e6 e7 e8
    obtain ⟨P1, P2⟩ := PO
    simp only [gName, List.set_cons_succ, List.set_cons_zero]
    obtain ⟨ra, hra, rr⟩ := lookHeld G3 P2
    have S3 : Same H H3 := s1.trans s3
    refine ⟨_, rfl, _, rfl, z, _, dx, _, _, rfl, G3.hz, T.c_Groups, T.n_Groups_held, fGr_held lo hd, _, rfl, hd, _, _, _, rfl, rfl, .of G3.hhd, atI_nat (map_get hra), _, _, rfl, .inl ⟨_, .of rr, rfl⟩, ?_⟩
    refine ⟨_, rfl, _, rfl, z, _, dx, _, _, rfl, G3.hz, T.c_Groups, T.n_Groups_held, fGr_held lo hd, _, rfl, b1, hd, g, has', held', rows ++ [r], rows.length, rfl, B1.same s3, hx, G3.hhd, G3.hhs, Nat.le_trans P1.sh (by omega), fun row m => Nat.le_trans (P1.hz row m) (by omega), fun et H4 s4 tn => ?_⟩
    refine ⟨l3, fun tr htr => ?_⟩
    have s5 : Same H4 (upd H4 tr (.tup [vi slot, .int (((held'.getD slot []).map vi).length : Nat), .ref et])) := Same.new htr
    have trOk : TR (upd H4 tr (.tup [vi slot, .int (((held'.getD slot []).map vi).length : Nat), .ref et])) tr (slot, (held'.getD slot []).length, entM (runM (rows ++ [r])).bits held' rows.length) := by
      refine ⟨et, ?_, s5 _ _ tn⟩
      rw [upd_same, List.length_map]
    have S5 : Same H (upd H4 tr (.tup [vi slot, .int (((held'.getD slot []).map vi).length : Nat), .ref et])) := (S3.trans s4).trans s5
    have G5 := (G3.same s4).same s5
    have B5 := (B1.same s3).same (s4.trans s5)
    generalize upd H4 tr (.tup [vi slot, .int (((held'.getD slot []).map vi).length : Nat), .ref et]) = H5 at trOk S5 G5 B5 ⊢
    simp only [gName, List.set_cons_succ, List.set_cons_zero]
    refine ⟨_, rfl, z, _, dx, _, _, rfl, G5.hz, T.c_Groups, T.n_Groups_lots, fGr_lots lo hd, lo, rfl, ⟨_, .of G5.hlo⟩, fun D hD => lc_list (K := K) (a := lo) (xs := las'.map V.ref) (fun i H' => Same H5 H' ∧ ∃ as : List Addr, H' D = some (.lst (as.map V.ref)) ∧ AllAt (TN H') as (lots'.take i))
        ⟨Same.new hD, [], upd_same, by rw [List.take_zero]; exact .nil⟩ (fun i H' _ ⟨e, _⟩ => .of (e _ _ G5.hlo)) ?_ ?_⟩
    · rintro i y H' hi ⟨e, as, q, ra⟩
      obtain ⟨la, hla, rfl⟩ := get_map hi
      obtain ⟨lot, hlot, rl⟩ := G5.hls.get' hla
      refine ⟨rfl, ?_⟩
      refine iteT (B := True) ?_
      refine ⟨_, rfl, .inl ⟨la, _, rfl, .of (e _ _ rl), fun u hu => ⟨_, Same.new hu _ _ q, ?_, same_upd hD (e.trans (Same.new hu)), as ++ [u], ?_, ?_⟩⟩⟩
      · rw [List.length_map, ra.1, List.length_take]
        have := P1.sl
        exact small1000 (by omega)
      · rw [upd_same, List.map_append]
        rfl
      · rw [take_snoc hlot]
        refine (ra.imp fun v w' rv => ?_).snoc ?_
        · show upd _ _ _ _ = _
          rw [upd_ne (ne_of rv q (by intro c; cases c))]
          exact Same.new hu _ _ rv
        · show upd _ _ _ _ = _
          rw [upd_ne (ne_of_none q hu).symm, upd_same]
    · rintro H6 ⟨e6', as, q6, ra6⟩
      rw [List.length_map, G5.hls.1, List.take_length] at ra6
      refine .inl ⟨D, _, rfl, .of q6, fun ln hln => ?_⟩
      have s7 : Same H6 (upd H6 ln (.tup (as.map V.ref))) := Same.new hln
      have lnOk : TT2 (upd H6 ln (.tup (as.map V.ref))) ln lots' := ⟨as, upd_same, ra6.imp fun u v r => TN.same s7 r⟩
      have S7 := (S5.trans e6').trans s7
      have G7 := (G5.same e6').same s7
      have B7 := (B5.same e6').same s7
      have t7 := (trOk.same e6').same s7
      generalize upd H6 ln (.tup (as.map V.ref)) = H7 at lnOk S7 G7 B7 t7 ⊢
      simp only [gName, List.set_cons_succ, List.set_cons_zero]
      refine ⟨_, rfl, z, _, dx, _, _, rfl, G7.hz, T.c_Groups, T.n_Groups_held, fGr_held lo hd, hd, rfl, ⟨_, .of G7.hhd⟩, fun D2 hD2 => lc_list (K := K) (a := hd) (xs := has'.map V.ref) (fun i H' => Same H7 H' ∧ ∃ as : List Addr, H' D2 = some (.lst (as.map V.ref)) ∧ AllAt (TN H') as (held'.take i))
          ⟨Same.new hD2, [], upd_same, by rw [List.take_zero]; exact .nil⟩ (fun i H' _ ⟨e, _⟩ => .of (e _ _ G7.hhd)) ?_ ?_⟩
      · rintro i y H' hi ⟨e, as, q, ra⟩
        obtain ⟨la, hla, rfl⟩ := get_map hi
        obtain ⟨lot, hlot, rl⟩ := G7.hhs.get' hla
        refine ⟨rfl, ?_⟩
        refine iteT (B := True) ?_
        refine ⟨_, rfl, .inl ⟨la, _, rfl, .of (e _ _ rl), fun u hu => ⟨_, Same.new hu _ _ q, ?_, same_upd hD2 (e.trans (Same.new hu)), as ++ [u], ?_, ?_⟩⟩⟩
        · rw [List.length_map, ra.1, List.length_take]
          have := P1.sh
          exact small1000 (by omega)
        · rw [upd_same, List.map_append]
          rfl
        · rw [take_snoc hlot]
          refine (ra.imp fun v w' rv => ?_).snoc ?_
          · show upd _ _ _ _ = _
            rw [upd_ne (ne_of rv q (by intro c; cases c))]
            exact Same.new hu _ _ rv
          · show upd _ _ _ _ = _
            rw [upd_ne (ne_of_none q hu).symm, upd_same]
      · rintro H8 ⟨e8', as8, q8, ra8⟩
        rw [List.length_map, G7.hhs.1, List.take_length] at ra8
        refine .inl ⟨D2, _, rfl, .of q8, fun hn hhn => ?_⟩
        have s9 : Same H8 (upd H8 hn (.tup (as8.map V.ref))) := Same.new hhn
        have hnOk : TT2 (upd H8 hn (.tup (as8.map V.ref))) hn held' := ⟨as8, upd_same, ra8.imp fun u v r => TN.same s9 r⟩
        have S9 := (S7.trans e8').trans s9
        have B9 := (B7.same e8').same s9
        have l9 := (lnOk.same e8').same s9
        have t9 := (t7.same e8').same s9
        generalize upd H8 hn (.tup (as8.map V.ref)) = H9 at hnOk S9 B9 l9 t9 ⊢
        simp only [gName, List.set_cons_succ, List.set_cons_zero]
        refine ⟨_, rfl, _, rfl, _, rfl, l1, fun w1 hw1 => ?_⟩
        have sw : Same H9 (upd H9 w1 (.tup [.ref tr])) := Same.new hw1
        have fin : ∀ (p : Addr) (Hf : Hp), Same H9 Hf → Hf p = some (.tup ((ts ++ [tr]).map V.ref)) → ∀ q, Hf q = none → Q (.ref q) (upd Hf q (.tup [.ref b1, .ref p, .ref ln, .ref hn])) := by
          intro p Hf sf hpf q hq
          have sq : Same Hf (upd Hf q (.tup [.ref b1, .ref p, .ref ln, .ref hn])) := Same.new hq
          refine k q _ ((S9.trans sf).trans sq) ⟨b1, p, ln, hn, upd_same, B9.same (sf.trans sq), ?_, ?_, ?_⟩
          · refine ⟨ts ++ [tr], sq _ _ hpf, ?_⟩
            rw [e6]
            exact ((e3'.imp fun u v r => TR.same ((S9.trans sf).trans sq) r)).snoc (t9.same (sf.trans sq))
          · rw [e7]
            exact l9.same (sf.trans sq)
          · rw [e8]
            exact hnOk.same (sf.trans sq)
        have e3f := S9 _ _ e3
        refine ⟨t, w1, ts.map V.ref, [.ref tr], rfl, rfl, .of (sw _ _ e3f), .of upd_same, ?_, fun h0 => ?_, fun h0 h00 => ?_, fun h0 h00 c hc => ?_⟩
        · rw [List.length_map, e3'.1, tlen]
          exact le_size (by show _ + 1 ≤ 1000; omega)
        · refine ⟨_, rfl, _, rfl, l4, fun q hq => ?_⟩
          refine fin w1 _ sw ?_ q hq
          have : ts = [] := by simpa using h0
          rw [this]
          exact upd_same
        · cases h00
        · refine ⟨_, rfl, _, rfl, l4, fun q hq => ?_⟩
          refine fin c _ (sw.trans (Same.new hc)) ?_ q hq
          rw [upd_same, List.map_append]
          rfl
end
end Lk
set_option Elab.async false
set_option linter.all false
set_option maxRecDepth 100000
set_option maxHeartbeats 4000000
namespace Lk
open PySem PySem.Spec PyProof.Rows L2
open He (ga ma)
section
variable {P : Program} {w : World} {K : PySem.W.Frag} {mg : Str → Option Value} {base : Heap}
structure ProgOk (P : Program) : Prop where
  f : ((P.main.file : Str) == ("/claim/cut.py" : Str)) = true
  t : (P.main.scope.names.lookup ("super" : Str)).isSome = false
/-! ### checks that raise -/
def spKind (K : PySem.W.Frag) : Sp := fun vs H Q E => ∃ i many : Int, vs = [.int i, .int many] ∧ ((0 ≤ i ∧ i ≤ many - 1) → Q .non H) ∧ (¬ (0 ≤ i ∧ i ≤ many - 1) → E (.ref (ga K "NoKind")) none H)
theorem ok_check_kind_of (PO : ProgOk P) (T : Tx K mg) (F : Fx K) (X : Ex w K) : DefOk P w K mg base (L2.CX P w) 3 (ga K "check_kind_of") ["thing", "many"] (spKind K) := by
  have D1 := ok_is_within (P := P) (w := w) (base := base) T F
  refine def_ok F.f_check_kind_of bd_check_kind_of sc_check_kind_of (fun vs H Q E h => ?_) (fun cdv A outer s H vs Q E hr h => ?_)
  · obtain ⟨i, many, rfl, _⟩ := h
    rfl
  · obtain ⟨i, many, rfl, k1, k2⟩ := h
    refine ⟨_, pss_one (ps_if (pt_not (pt_val (pe_cal D1 hr (by rfl) T.g_is_within pass0 (pa_cons (pv 0) (pa_cons pe_int (pa_cons (pe_op op_sub (pv 1) pe_int) pa_nil))))))
      (pss_one (ps_raise rfl (takes_of rfl rfl rfl rfl) (pmk_sup0 X.ex_NoKind (by rfl) ⟨T.b_super, PO.f, PO.t⟩ hr (by rfl) T.g_NoKind))) pss_nil), ?_⟩
    refine ⟨_, rfl, _, rfl, _, _, rfl, rfl, i, 0, _, rfl, _, rfl, ?_⟩
    by_cases h : 0 ≤ i ∧ i ≤ many - 1
    · rw [decide_eq_true h.1, decide_eq_true h.2]
      refine iteF (A := True) ?_
      exact k1 h
    · have e : (decide (0 ≤ i) && decide (i ≤ many - 1)) = false := by
        rw [← Bool.decide_and]
        exact decide_eq_false h
      rw [e]
      refine iteT (B := True) ?_
      exact k2 h
def spMost : Sp := fun vs H Q _ => ∃ a b : Int, vs = [.int a, .int b] ∧ a ≤ b ∧ Q .non H
theorem ok_check_most (T : Tx K mg) (F : Fx K) : DefOk P w K mg base CX0 1 (ga K "check_most") ["number", "most"] spMost := by
  refine def0 F.f_check_most bd_check_most sc_check_most (fun vs H Q E h => ?_) (fun cdv A outer s H vs Q E hr h => ?_)
  · obtain ⟨a, b, rfl, _⟩ := h
    rfl
  · obtain ⟨a, b, rfl, h, k⟩ := h
    refine ⟨_, pss_one (ps_if (pt_cmpR op_gt (pv 0) (pv 1) (nomark _)) pss_never pss_nil), ?_⟩
    refine ⟨_, rfl, _, rfl, _, _, rfl, rfl, _, rfl, ?_⟩
    rw [decide_eq_false (by omega)]
    refine iteF (A := True) ?_
    exact k
/-! ### told -/
abbrev Trip := Nat × Nat × List Nat
def toldM (trip : List Trip) (x p : Nat) : Bool :=
  decide ((trip.getD p (0, 0, [])).1 < (trip.getD x (0, 0, [])).2.2.length) && decide ((trip.getD p (0, 0, [])).2.1 ≤ (trip.getD x (0, 0, [])).2.2.getD (trip.getD p (0, 0, [])).1 0)
def spTold : Sp := fun vs H Q _ => ∃ (t : Addr) (trip : List Trip) (x p : Nat), vs = [.ref t, vi x, vi p] ∧ TTr H t trip ∧ x < trip.length ∧ p < trip.length ∧ Q (.bl (toldM trip x p)) H
theorem getD_some {α : Type} {l : List α} {i : Nat} {d a : α} (h : l[i]? = some a) : l.getD i d = a := by
  rw [List.getD_eq_getElem?_getD, h]
  rfl
theorem ok_told (T : Tx K mg) (F : Fx K) : DefOk P w K mg base CX0 1 (ga K "told") ["scheme", "x", "p"] spTold := by
  have nd := sc_told.nd
  refine def0 F.f_told bd_told sc_told (fun vs H Q E h => ?_) (fun cdv A outer s H vs Q E hr h => ?_)
  · obtain ⟨t, trip, x, p, rfl, _⟩ := h
    rfl
  · obtain ⟨t, trip, x, p, rfl, ⟨as, ht, ra⟩, hx, hp, k⟩ := h
    refine ⟨_, pss_cons (ps_asg (pe_ix ix_tup (pv 0) (pv 2) (fun _ _ => rfl)) (pg_tup (n := 3) rfl (pgs_cons (pg_name (i := 3) nd rfl (Or.inl rfl)) (pgs_cons (pg_name (i := 4) nd rfl (Or.inl rfl)) (pgs_cons (pg_name (i := 5) nd rfl (Or.inl rfl)) pgs_nil)))))
      (pss_cons (ps_set (i := 6) nd rfl (Or.inl rfl) (pe_ix ix_tup (pe_ix ix_tup (pv 0) (pv 1) (fun _ _ => rfl)) pe_int (fun _ _ => rfl)))
      (pss_one (ps_ret (pe_and (pe_cmpR op_lt (pv 3) (pe_callB call_len (by rfl) T.b_len (by decide +kernel) (pa_cons (pv 6) pa_nil)) (nomark _)) (pe_one (pe_cmpR op_ge (pe_ix ix_tup (pv 6) (pv 3) (fun _ _ => rfl)) (pv 4) (nomark _))))))), ?_⟩
    have ep : trip[p]? = some trip[p] := List.getElem?_eq_getElem hp
    have ex : trip[x]? = some trip[x] := List.getElem?_eq_getElem hx
    obtain ⟨ap, hap, ⟨rp, h1, h2⟩⟩ := ra.get ep
    obtain ⟨ax, hax, ⟨rx, h3, h4⟩⟩ := ra.get ex
    unfold toldM at k
    rw [getD_some ep, getD_some ex] at k
    generalize trip[p] = tp at h1 h2 k
    generalize trip[x] = tx at h3 h4 k
    refine ⟨_, rfl, _, rfl, t, _, _, _, rfl, rfl, .of ht, atI_nat (map_get hap), ap, _, rfl, .of h1, rfl, _, _, rfl, _, _, rfl, _, _, rfl, rfl, ?_⟩
    refine ⟨_, rfl, _, rfl, t, _, _, _, rfl, rfl, .of ht, atI_nat (map_get hax), ax, _, 2, _, rfl, rfl, .of h3, rfl, ?_⟩
    refine ⟨_, rfl, _, rfl, _, _, rfl, .inr ⟨_, .of h4, rfl⟩, _, _, rfl, rfl, _, rfl, ?_⟩
    rw [List.length_map]
    by_cases hl : tp.1 < tx.2.2.length
    · rw [decide_eq_true (by exact_mod_cast hl)]
      rw [decide_eq_true hl] at k
      refine iteT (B := True) ?_
      have en : tx.2.2[tp.1]? = some tx.2.2[tp.1] := List.getElem?_eq_getElem hl
      rw [getD_some en] at k
      refine ⟨_, rfl, _, rfl, rx, _, _, _, rfl, rfl, .of h4, atI_nat (map_get en), _, rfl, _, _, rfl, rfl, ?_⟩
      have ed : decide (((tp.2.1 : Nat) : Int) ≤ ((tx.2.2[tp.1] : Nat) : Int)) = decide (tp.2.1 ≤ tx.2.2[tp.1]) := decide_eq_decide.mpr (by omega)
      show Q (V.bl (decide (((tp.2.1 : Nat) : Int) ≤ ((tx.2.2[tp.1] : Nat) : Int)))) H
      rw [ed]
      exact k
    · rw [decide_eq_false (by omega)]
      rw [decide_eq_false hl] at k
      refine iteF (A := True) ?_
      exact k
end
end Lk
set_option Elab.async false
set_option linter.all false
set_option maxRecDepth 100000
set_option maxHeartbeats 4000000
namespace Lk
open PySem PySem.Spec PyProof.Rows L2
open He (ga ma)
section
variable {P : Program} {w : World} {K : PySem.W.Frag} {mg : Str → Option Value} {base : Heap}
/-! ### runtimes -/
def RunAt (K : PySem.W.Frag) (g : Addr) (H : Hp) (r : Addr) (rows : List (List Nat)) : Prop :=
  ∃ dx p s, ∃ ss : List Addr, H r = some (.ins (ga K "Runtime") dx [("steps", .ref p)]) ∧ H p = some (.tup ((ss ++ [s]).map V.ref)) ∧ ss.length = rows.length ∧ StepAt K g H s rows
theorem RunAt.same {K : PySem.W.Frag} {g : Addr} {H H' : Hp} {r : Addr} {rows : List (List Nat)} (e : Same H H') (h : RunAt K g H r rows) : RunAt K g H' r rows := by
  obtain ⟨dx, p, s, ss, h1, h2, h3, h4⟩ := h
  exact ⟨dx, p, s, ss, e _ _ h1, e _ _ h2, h3, h4.same e⟩
theorem steps_look (p : Addr) : ([("steps", .ref p)] : List (Str × V)).lookup ("steps" : Str) = some (V.ref p) := rfl
def spRtInit (K : PySem.W.Frag) : Sp := fun vs H Q _ => ∃ (r dx g : Addr) (o : HO), vs = [.ref r] ∧ H r = some (.ins (ga K "Runtime") dx []) ∧ H g = some o ∧ ∀ H', But r H H' → RunAt K g H' r [] → (∃ p, H' r = some (.ins (ga K "Runtime") dx [("steps", .ref p)])) → Q .non H'
theorem BookAt.but {K : PySem.W.Frag} {g x : Addr} {H H' : Hp} {b : Addr} {rows : List (List Nat)} (e : But x H H') {C dx : Addr} {fs : List (Str × V)} (hx : H x = some (.ins C dx fs)) (hC : C ≠ ga K "Book" ∨ fs.lookup ("bits" : Str) = none) (h : BookAt K g H b rows) : BookAt K g H' b rows := by
  obtain ⟨dx', p, q, h1, ⟨as, h2, h2'⟩, h3, h4⟩ := h
  refine ⟨dx', p, q, e _ _ (ne_of h1 hx (by
    intro c
    injection c with c1 c2 c3
    rcases hC with hC | hC
    · exact hC c1.symm
    · rw [← c3, fBook_bits] at hC
      cases hC)) h1, ⟨as, e _ _ (ne_of h2 hx (by intro c; cases c)) h2, h2'.imp fun u v r => e _ _ (ne_of r hx (by intro c; cases c)) r⟩, e _ _ (ne_of h3 hx (by intro c; cases c)) h3, h4⟩
theorem StepAt.but {K : PySem.W.Frag} {g x : Addr} {H H' : Hp} {s : Addr} {rows : List (List Nat)} (e : But x H H') {C dx : Addr} {fs : List (Str × V)} (hx : H x = some (.ins C dx fs)) (hC : C ≠ ga K "Book" ∨ fs.lookup ("bits" : Str) = none) (h : StepAt K g H s rows) : StepAt K g H' s rows := by
  have et : ∀ a xs, H a = some (.tup xs) → H' a = some (.tup xs) := fun a xs h => e _ _ (ne_of h hx (by intro c; cases c)) h
  have en : ∀ a ns, TN H a ns → TN H' a ns := fun a ns h => et _ _ h
  have e2 : ∀ a ls, TT2 H a ls → TT2 H' a ls := fun a ls ⟨as, h, r⟩ => ⟨as, et _ _ h, r.imp fun u v => en u v⟩
  obtain ⟨b, t, l, k, h1, h2, ⟨ts, h3, h3'⟩, h4, h5⟩ := h
  exact ⟨b, t, l, k, et _ _ h1, h2.but e hx hC, ⟨ts, et _ _ h3, h3'.imp fun u v ⟨w', a, b⟩ => ⟨w', et _ _ a, en _ _ b⟩⟩, e2 _ _ h4, e2 _ _ h5⟩
theorem ok_Runtime_init (T : Tx K mg) (F : Fx K) : DefOk P w K mg base CX0 6 (ma K (ga K "Runtime") "__init__") ["self"] (spRtInit K) := by
  have D1 := ok_first_step (P := P) (w := w) (base := base) T F
  refine def0 F.f_Runtime_init bd_Runtime_init sc_Runtime_init (fun vs H Q E h => ?_) (fun cdv A outer s H vs Q E hr h => ?_)
  · obtain ⟨r, dx, g, o, rfl, _⟩ := h
    rfl
  · obtain ⟨r, dx, g, o, rfl, hr1, hg, k⟩ := h
    refine ⟨_, pss_one (ps_fld (pv 0) (pe_tup (pa_cons (pe_cal0 D1 hr (by rfl) T.g_first_step pass0) pa_nil)) (by rfl)), ?_⟩
    refine ⟨g, o, rfl, hg, fun s1 H1 e1 S1 => ⟨l1, fun p hp => ?_⟩⟩
    have sp : Same H1 (upd H1 p (.tup [.ref s1])) := Same.new hp
    have hr2 := sp _ _ (e1 _ _ hr1)
    have np : p ≠ r := (ne_of_none (e1 _ _ hr1) hp).symm
    refine ⟨_, rfl, r, _, dx, _, rfl, hr2, T.c_Runtime, T.n_Runtime_steps, by show 0 < 1000; decide, ?_⟩
    refine k _ (fun c u n h => by rw [upd_ne n]; exact sp _ _ (e1 _ _ h)) ⟨dx, p, s1, [], upd_same, by rw [upd_ne np, upd_same]; rfl, rfl, StepAt.but But.upd hr2 (.inr rfl) (StepAt.same sp S1)⟩ ⟨p, upd_same⟩
def spRtMany (K : PySem.W.Frag) : Sp := fun vs H Q _ => ∃ (r g : Addr) (rows : List (List Nat)), vs = [.ref r] ∧ RunAt K g H r rows ∧ Q (vi rows.length) H
theorem ok_Runtime_many (T : Tx K mg) (F : Fx K) : DefOk P w K mg base CX0 1 (ma K (ga K "Runtime") "many") ["self"] (spRtMany K) := by
  refine def0 F.f_Runtime_many bd_Runtime_many sc_Runtime_many (fun vs H Q E h => ?_) (fun cdv A outer s H vs Q E hr h => ?_)
  · obtain ⟨r, g, rows, rfl, _⟩ := h
    rfl
  · obtain ⟨r, g, rows, rfl, ⟨dx, p, s1, ss, h1, h2, h3, h4⟩, k⟩ := h
    refine ⟨_, pss_one (ps_ret (pe_op op_sub (pe_callB call_len (by rfl) T.b_len (by decide +kernel) (pa_cons (pe_fld (pv 0) (by rfl)) pa_nil)) pe_int)), ?_⟩
    refine ⟨_, rfl, r, _, dx, _, _, rfl, h1, T.c_Runtime, T.n_Runtime_steps, rfl, _, _, rfl, .inr ⟨_, .of h2, rfl⟩, _, _, rfl, rfl, ?_⟩
    have e : ((((ss ++ [s1]).map V.ref).length : Nat) : Int) - 1 = ((rows.length : Nat) : Int) := by
      rw [List.length_map, List.length_append, h3]
      simp
    show Q (V.int (((((ss ++ [s1]).map V.ref).length : Nat) : Int) - 1)) H
    rw [e]
    exact k
def spRtCopy (K : PySem.W.Frag) : Sp := fun vs H Q _ => ∃ (r g : Addr) (rows : List (List Nat)) (o : HO), vs = [.ref r] ∧ RunAt K g H r rows ∧ H g = some o ∧ ∀ r' H', Same H H' → H r' = none → RunAt K g H' r' rows → Q (.ref r') H'
theorem ok_Runtime_copy (T : Tx K mg) (F : Fx K) : DefOk P w K mg base CX0 8 (ma K (ga K "Runtime") "copy") ["self"] (spRtCopy K) := by
  have D1 := ok_Runtime_init (P := P) (w := w) (base := base) T F
  refine def0 F.f_Runtime_copy bd_Runtime_copy sc_Runtime_copy (fun vs H Q E h => ?_) (fun cdv A outer s H vs Q E hr h => ?_)
  · obtain ⟨r, g, rows, o, rfl, _⟩ := h
    rfl
  · obtain ⟨r, g, rows, o, rfl, ⟨dx, p, s1, ss, h1, h2, h3, h4⟩, hg, k⟩ := h
    refine ⟨_, pss_cons (ps_set (i := 1) sc_Runtime_copy.nd rfl (Or.inl rfl) (pe_mak0 T.k_Runtime D1 hr (by rfl) T.g_Runtime pass0)) (pss_cons (ps_fld (pv 1) (pe_fld (pv 0) (by rfl)) (by rfl)) (pss_one (ps_ret (pv 1)))), ?_⟩
    refine fun x dx1 hx hdx hn => ⟨x, dx1, g, o, rfl, upd_same, mk_ins0 hx hdx hn _ _ hg, fun H1 bt R1 ⟨p1, hx1⟩ => ⟨rfl, ?_⟩⟩
    have s2 : Same H H1 := mk_ins hx hdx hn bt
    refine ⟨_, rfl, r, _, dx, _, _, rfl, s2 _ _ h1, T.c_Runtime, T.n_Runtime_steps, rfl, _, rfl, x, _, dx1, _, rfl, hx1, T.c_Runtime, T.n_Runtime_steps, by show 1 < 1000; decide, ?_⟩
    have s3 := same_upd (o := .ins (ga K "Runtime") dx1 (putF "steps" (V.ref p) [("steps", V.ref p1)])) hx s2
    refine ⟨_, rfl, k x _ s3 hx ⟨dx1, p, s1, ss, upd_same, s3 _ _ h2, h3, h4.same s3⟩⟩
end
end Lk
set_option Elab.async false
set_option linter.all false
set_option maxRecDepth 100000
set_option maxHeartbeats 4000000
namespace Lk
open PySem PySem.Spec PyProof.Rows L2
open He (ga ma)
section
variable {P : Program} {w : World} {K : PySem.W.Frag} {mg : Str → Option Value} {base : Heap}
theorem last_ref (ss : List Addr) (s : Addr) : atI ((ss ++ [s]).map V.ref) (-(1 : Int)) = some (.ref s) := by
  rw [List.map_append]
  exact atI_last _ _
theorem lotB_lt {many : Int} : ∀ {ns : List Int} {l : Int}, lotB many l ns = true → ∀ p ∈ ns, p ≤ many - 1
  | [], _, _ => by simp
  | i :: r, l, h => by
    have h : ((decide (l + 1 ≤ i) && decide (i ≤ many - 1)) && lotB many i r) = true := h
    rw [Bool.and_eq_true, Bool.and_eq_true] at h
    intro p hp
    rcases List.mem_cons.mp hp with rfl | hp
    · exact of_decide_eq_true h.1.2
    · exact lotB_lt h.2 p hp
/-- are these parents of a kind behind n? -/
def parB (n : Nat) (r : List Nat) : Bool := lotB (n : Int) (-1) (r.map fun x : Nat => (x : Int)) && decide (r.length ≤ 6)
theorem parB_lt {n : Nat} {r : List Nat} (h : parB n r = true) : ∀ p ∈ r, p < n := fun p hp => by
  unfold parB at h
  rw [Bool.and_eq_true] at h
  have := lotB_lt h.1 (p : Int) (List.mem_map.mpr ⟨p, hp, rfl⟩)
  omega
def spLoad (K : PySem.W.Frag) : Sp := fun vs H Q E => ∃ (r a g : Addr) (o : HO) (rows : List (List Nat)) (ns : List Nat), vs = [.ref r, .ref a] ∧ RunAt K g H r rows ∧ TN H a ns ∧ ns.length ≤ 1000 ∧ rows.length ≤ 20 ∧ H g = some o ∧
  (parB rows.length ns = true → ∀ H', But r H H' → RunAt K g H' r (rows ++ [ns]) → Q (vi rows.length) H') ∧ (parB rows.length ns = false → E (.ref (ga K "BadKind")) none H)
theorem ok_Runtime_load (PO : ProgOk P) (T : Tx K mg) (F : Fx K) (X : Ex w K) : DefOk P w K mg base (L2.CX P w) 7 (ma K (ga K "Runtime") "load") ["self", "parents"] (spLoad K) := by
  have D1 := ok_Runtime_many (P := P) (w := w) (base := base) T F
  have D2 := ok_are_parents (P := P) (w := w) (base := base) T F
  have D3 := ok_check_most (P := P) (w := w) (base := base) T F
  have D4 := ok_next_step (P := P) (w := w) (base := base) T F
  have nd := sc_Runtime_load.nd
  refine def_ok F.f_Runtime_load bd_Runtime_load sc_Runtime_load (fun vs H Q E h => ?_) (fun cdv A outer s H vs Q E hr h => ?_)
  · obtain ⟨r, a, g, o, rows, ns, rfl, _⟩ := h
    rfl
  · obtain ⟨r, a, g, o, rows, ns, rfl, R, ha, hns, hl, hg, k1, k2⟩ := h
    obtain ⟨tk, g6⟩ := T.i_MOST_KINDS
    refine ⟨_, pss_cons (ps_set (i := 2) nd rfl (Or.inl rfl) (pe_met0 (pv 0) T.c_Runtime T.m_Runtime_many (D1.mono (by decide : 1 ≤ 6)) hr pass0))
      (pss_cons (ps_if (pt_not (pt_val (pe_cal (D2.mono (by decide : 4 ≤ 6)) hr (by rfl) T.g_are_parents pass0 (pa_cons (pv 1) (pa_cons (pv 2) pa_nil)))))
        (pss_one (ps_raise rfl (takes_of rfl rfl rfl rfl) (pmk_sup0 X.ex_BadKind (by rfl) ⟨T.b_super, PO.f, PO.t⟩ hr (by rfl) T.g_BadKind))) pss_nil)
      (pss_cons (ps_expr (pe_cal (D3.mono (by decide : 1 ≤ 6)) hr (by rfl) T.g_check_most pass0 (pa_cons (pe_op op_add (pv 2) pe_int) (pa_cons (pe_glob (v := .int 400) (by rfl) g6 ⟨tk, rfl⟩) pa_nil))))
      (pss_cons (ps_fld (pv 0) (pe_op op_catA (pe_fld (pv 0) (by rfl)) (pe_tup (pa_cons (pe_cal (D4.mono (by decide : 5 ≤ 6)) hr (by rfl) T.g_next_step pass0 (pa_cons (pe_ix ix_tup (pe_fld (pv 0) (by rfl)) (pe_un un_neg pe_int) (fun _ _ => rfl)) (pa_cons (pv 1) pa_nil))) pa_nil))) (by rfl))
      (pss_one (ps_ret (pv 2)))))), ?_⟩
    obtain ⟨dx, p, s1, ss, h1, h2, h3, h4⟩ := id R
    refine ⟨_, rfl, r, dx, _, rfl, h1, rfl, r, g, rows, rfl, R, ?_⟩
    refine ⟨_, rfl, _, rfl, a, ns.map (fun x : Nat => (x : Int)), _, rfl, by rw [List.map_map]; exact ha, by rw [List.length_map]; exact hns, ?_⟩
    refine ⟨_, rfl, ?_⟩
    have eb : (lotB (rows.length : Int) (-1) (ns.map fun x : Nat => (x : Int)) && decide ((ns.map fun x : Nat => (x : Int)).length ≤ 6)) = parB rows.length ns := by
      rw [List.length_map]
      rfl
    rw [eb]
    cases hb : parB rows.length ns with
    | false =>
      refine iteT (B := True) ?_
      exact k2 hb
    | true =>
      refine iteF (A := True) ?_
      refine ⟨_, rfl, _, _, rfl, rfl, _, _, rfl, by show (rows.length : Int) + 1 ≤ 400; omega, ?_⟩
      refine ⟨_, rfl, r, _, dx, _, _, rfl, h1, T.c_Runtime, T.n_Runtime_steps, rfl, _, rfl, r, _, dx, _, _, rfl, h1, T.c_Runtime, T.n_Runtime_steps, rfl, _, rfl, p, _, _, _, rfl, rfl, .of h2, last_ref ss s1, _, rfl, s1, a, g, o, rows, ns, rfl, h4, ha, parB_lt hb, hl, hg, fun s2 H1 e1 S2 => ?_⟩
      refine ⟨l1, fun t ht => ?_⟩
      have et : Same H1 (upd H1 t (.tup [.ref s2])) := Same.new ht
      have e2 := e1.trans et
      refine ⟨p, t, _, [.ref s2], rfl, rfl, .of (e2 _ _ h2), .of upd_same, ?_, fun h0 => ?_, fun h0 h00 => ?_, fun h0 h00 c hc => ?_⟩
      · rw [List.length_map, List.length_append, h3]
        exact le_size (by show rows.length + 1 + 1 ≤ 1000; omega)
      · simp at h0
      · cases h00
      · have ec : Same (upd H1 t (.tup [.ref s2])) (upd (upd H1 t (.tup [.ref s2])) c (.tup ((ss ++ [s1]).map V.ref ++ [.ref s2]))) := Same.new hc
        have hr3 := ec _ _ (e2 _ _ h1)
        have S3 := S2.same (et.trans ec)
        refine ⟨_, rfl, r, _, dx, _, rfl, hr3, T.c_Runtime, T.n_Runtime_steps, by show 1 < 1000; decide, _, rfl, ?_⟩
        have nc : c ≠ r := (ne_of_none (e2 _ _ h1) hc).symm
        refine k1 hb _ (fun y u n h => by rw [upd_ne n]; exact ec _ _ (e2 _ _ h)) ⟨dx, c, s2, ss ++ [s1], upd_same, ?_, ?_, StepAt.but But.upd hr3 (.inr rfl) S3⟩
        · rw [upd_ne nc, upd_same]
          simp
        · rw [List.length_append, List.length_append, h3]
          rfl
def spAsk (K : PySem.W.Frag) : Sp := fun vs H Q E => ∃ (r g : Addr) (rows : List (List Nat)) (x p : Nat), vs = [.ref r, vi x, vi p] ∧ RunAt K g H r rows ∧
  (x < rows.length ∧ p < rows.length → Q (.bl (toldM (runM rows).trip x p)) H) ∧ (¬ (x < rows.length ∧ p < rows.length) → E (.ref (ga K "NoKind")) none H)
theorem ok_Runtime_ask (PO : ProgOk P) (T : Tx K mg) (F : Fx K) (X : Ex w K) : DefOk P w K mg base (L2.CX P w) 4 (ma K (ga K "Runtime") "ask") ["self", "x", "p"] (spAsk K) := by
  have D1 := ok_Runtime_many (P := P) (w := w) (base := base) T F
  have D2 := ok_check_kind_of (base := base) PO T F X
  have D3 := ok_told (P := P) (w := w) (base := base) T F
  refine def_ok F.f_Runtime_ask bd_Runtime_ask sc_Runtime_ask (fun vs H Q E h => ?_) (fun cdv A outer s H vs Q E hr h => ?_)
  · obtain ⟨r, g, rows, x, p, rfl, _⟩ := h
    rfl
  · obtain ⟨r, g, rows, x, p, rfl, R, k1, k2⟩ := h
    refine ⟨_, pss_cons (ps_expr (pe_cal (E := E) D2 hr (by rfl) T.g_check_kind_of (passes_call (takes_of rfl rfl rfl rfl) (fun _ _ _ _ h => h)) (pa_cons (pv 1) (pa_cons (pe_met0 (pv 0) T.c_Runtime T.m_Runtime_many (D1.mono (by decide : 1 ≤ 3)) hr pass0) pa_nil))))
      (pss_cons (ps_expr (pe_cal (E := E) D2 hr (by rfl) T.g_check_kind_of (passes_call (takes_of rfl rfl rfl rfl) (fun _ _ _ _ h => h)) (pa_cons (pv 2) (pa_cons (pe_met0 (pv 0) T.c_Runtime T.m_Runtime_many (D1.mono (by decide : 1 ≤ 3)) hr pass0) pa_nil))))
      (pss_one (ps_ret (pe_cal (D3.mono (by decide : 1 ≤ 3)) hr (by rfl) T.g_told pass0 (pa_cons (pe_ix ix_tup (pe_ix ix_tup (pe_fld (pv 0) (by rfl)) (pe_un un_neg pe_int) (fun _ _ => rfl)) pe_int (fun _ _ => rfl)) (pa_cons (pv 1) (pa_cons (pv 2) pa_nil))))))), ?_⟩
    obtain ⟨dx, pp, s1, ss, h1, h2, h3, h4⟩ := id R
    have tl := (bits_len rows).2
    refine ⟨_, rfl, _, rfl, r, dx, _, rfl, h1, rfl, r, g, rows, rfl, R, _, _, rfl, fun hx => ?_, fun hx => k2 (by omega)⟩
    refine ⟨_, rfl, _, rfl, r, dx, _, rfl, h1, rfl, r, g, rows, rfl, R, _, _, rfl, fun hp => ?_, fun hp => k2 (by omega)⟩
    obtain ⟨b, t, l, h, e1, e2, e3, e4, e5⟩ := h4
    refine ⟨_, rfl, r, _, dx, _, _, rfl, h1, T.c_Runtime, T.n_Runtime_steps, rfl, _, rfl, pp, _, _, _, rfl, rfl, .of h2, last_ref ss s1, s1, _, 1, _, rfl, rfl, .of e1, rfl, _, rfl, _, rfl, t, _, x, p, rfl, e3, by rw [tl]; omega, by rw [tl]; omega, ?_⟩
    exact k1 ⟨by omega, by omega⟩
def spGiven (K : PySem.W.Frag) : Sp := fun vs H Q E => ∃ (r g : Addr) (rows : List (List Nat)) (x : Nat), vs = [.ref r, vi x] ∧ RunAt K g H r rows ∧
  (x < rows.length → ∀ a t, (runM rows).trip[x]? = some t → TR H a t → Q (.ref a) H) ∧ (¬ x < rows.length → E (.ref (ga K "NoKind")) none H)
theorem ok_Runtime_given (PO : ProgOk P) (T : Tx K mg) (F : Fx K) (X : Ex w K) : DefOk P w K mg base (L2.CX P w) 4 (ma K (ga K "Runtime") "given") ["self", "x"] (spGiven K) := by
  have D1 := ok_Runtime_many (P := P) (w := w) (base := base) T F
  have D2 := ok_check_kind_of (base := base) PO T F X
  refine def_ok F.f_Runtime_given bd_Runtime_given sc_Runtime_given (fun vs H Q E h => ?_) (fun cdv A outer s H vs Q E hr h => ?_)
  · obtain ⟨r, g, rows, x, rfl, _⟩ := h
    rfl
  · obtain ⟨r, g, rows, x, rfl, R, k1, k2⟩ := h
    refine ⟨_, pss_cons (ps_expr (pe_cal (E := E) D2 hr (by rfl) T.g_check_kind_of (passes_call (takes_of rfl rfl rfl rfl) (fun _ _ _ _ h => h)) (pa_cons (pv 1) (pa_cons (pe_met0 (pv 0) T.c_Runtime T.m_Runtime_many (D1.mono (by decide : 1 ≤ 3)) hr pass0) pa_nil))))
      (pss_one (ps_ret (pe_ix ix_tup (pe_ix ix_tup (pe_ix ix_tup (pe_fld (pv 0) (by rfl)) (pe_un un_neg pe_int) (fun _ _ => rfl)) pe_int (fun _ _ => rfl)) (pv 1) (fun _ _ => rfl)))), ?_⟩
    obtain ⟨dx, pp, s1, ss, h1, h2, h3, h4⟩ := id R
    have tl := (bits_len rows).2
    refine ⟨_, rfl, _, rfl, r, dx, _, rfl, h1, rfl, r, g, rows, rfl, R, _, _, rfl, fun hx => ?_, fun hx => k2 (by omega)⟩
    obtain ⟨b, t, l, h, e1, e2, ⟨ts, e3, e3'⟩, e4, e5⟩ := h4
    have hx2 : x < rows.length := by omega
    have ex : (runM rows).trip[x]? = some (runM rows).trip[x] := List.getElem?_eq_getElem (by rw [tl]; exact hx2)
    obtain ⟨ax, hax, rx⟩ := e3'.get ex
    refine ⟨_, rfl, r, _, dx, _, _, rfl, h1, T.c_Runtime, T.n_Runtime_steps, rfl, _, rfl, pp, _, _, _, rfl, rfl, .of h2, last_ref ss s1, s1, _, 1, _, rfl, rfl, .of e1, rfl, _, rfl, t, _, _, _, rfl, rfl, .of e3, atI_nat (map_get hax), ?_⟩
    exact k1 hx2 ax _ ex rx
def spRtBook (K : PySem.W.Frag) : Sp := fun vs H Q _ => ∃ (r g : Addr) (rows : List (List Nat)), vs = [.ref r] ∧ RunAt K g H r rows ∧ ∀ b, BookAt K g H b rows → Q (.ref b) H
theorem ok_Runtime_book (T : Tx K mg) (F : Fx K) : DefOk P w K mg base CX0 1 (ma K (ga K "Runtime") "book") ["self"] (spRtBook K) := by
  refine def0 F.f_Runtime_book bd_Runtime_book sc_Runtime_book (fun vs H Q E h => ?_) (fun cdv A outer s H vs Q E hr h => ?_)
  · obtain ⟨r, g, rows, rfl, _⟩ := h
    rfl
  · obtain ⟨r, g, rows, rfl, ⟨dx, p, s1, ss, h1, h2, h3, ⟨b, t, l, h, e1, e2, e3, e4, e5⟩⟩, k⟩ := h
    refine ⟨_, pss_one (ps_ret (pe_ix ix_tup (pe_ix ix_tup (pe_fld (pv 0) (by rfl)) (pe_un un_neg pe_int) (fun _ _ => rfl)) pe_int (fun _ _ => rfl))), ?_⟩
    exact ⟨_, rfl, r, _, dx, _, _, rfl, h1, T.c_Runtime, T.n_Runtime_steps, rfl, _, rfl, p, _, _, _, rfl, rfl, .of h2, last_ref ss s1, s1, _, 0, _, rfl, rfl, .of e1, rfl, k b e2⟩
def spRtGroups (K : PySem.W.Frag) : Sp := fun vs H Q _ => ∃ (r g : Addr) (rows : List (List Nat)), vs = [.ref r] ∧ RunAt K g H r rows ∧ rows.length ≤ 20 ∧ ∀ p H', Same H H' → TT2 H' p (groupsM (runM rows).lots) → Q (.ref p) H'
theorem ok_Runtime_groups (T : Tx K mg) (F : Fx K) : DefOk P w K mg base CX0 4 (ma K (ga K "Runtime") "groups") ["self"] (spRtGroups K) := by
  have D1 := ok_groups_from (P := P) (w := w) (base := base) T F
  have D2 := ok_Groups_told (P := P) (w := w) (base := base) T F
  refine def0 F.f_Runtime_groups bd_Runtime_groups sc_Runtime_groups (fun vs H Q E h => ?_) (fun cdv A outer s H vs Q E hr h => ?_)
  · obtain ⟨r, g, rows, rfl, _⟩ := h
    rfl
  · obtain ⟨r, g, rows, rfl, ⟨dx, p, s1, ss, h1, h2, h3, ⟨b, t, l, h, e1, e2, e3, e4, e5⟩⟩, hl, k⟩ := h
    refine ⟨_, pss_one (ps_ret (pe_met0 (pe_cal D1 hr (by rfl) T.g_groups_from pass0 (pa_cons (pe_ix ix_tup (pe_ix ix_tup (pe_fld (pv 0) (by rfl)) (pe_un un_neg pe_int) (fun _ _ => rfl)) pe_int (fun _ _ => rfl)) (pa_cons (pe_ix ix_tup (pe_ix ix_tup (pe_fld (pv 0) (by rfl)) (pe_un un_neg pe_int) (fun _ _ => rfl)) pe_int (fun _ _ => rfl)) pa_nil))) T.c_Groups T.m_Groups_told (D2.mono (by decide : 1 ≤ 3)) hr pass0)), ?_⟩
    have RO := run_ok rows
    refine ⟨_, rfl, r, _, dx, _, _, rfl, h1, T.c_Runtime, T.n_Runtime_steps, rfl, _, rfl, p, _, _, _, rfl, rfl, .of h2, last_ref ss s1, s1, _, 2, _, rfl, rfl, .of e1, rfl,
      _, rfl, r, _, dx, _, _, rfl, h1, T.c_Runtime, T.n_Runtime_steps, rfl, _, rfl, p, _, _, _, rfl, rfl, .of h2, last_ref ss s1, s1, _, 3, _, rfl, rfl, .of e1, rfl,
      l, h, _, _, rfl, e4, e5, Nat.le_trans RO.sl (by omega), Nat.le_trans RO.sh (by omega), fun z dz lo hd las has H1 S1 G1 Y1 => ?_⟩
    exact ⟨z, dz, _, rfl, G1.hz, rfl, z, dz, lo, hd, las, has, _, _, rfl, G1, Nat.le_trans RO.sl (by omega), fun lot m => Nat.le_trans (RO.lz lot m) (by omega), fun q H2 S2 t2 => k q H2 (S1.trans S2) t2⟩
end
end Lk
set_option Elab.async false
set_option linter.all false
set_option maxRecDepth 100000
set_option maxHeartbeats 4000000
namespace Lk
open PySem PySem.Spec PyProof.Rows L2
open He (ga ma)
section
variable {P : Program} {w : World} {K : PySem.W.Frag} {mg : Str → Option Value} {base : Heap}
/-! ### the widths: tables of numbers -/
abbrev AL := List (Nat × Nat)
def lk (l : AL) (k : Nat) : Option Nat := (l.find? fun kv => decide (kv.1 = k)).map (·.2)
def pt (l : AL) (k v : Nat) : AL := if (l.any fun kv => decide (kv.1 = k)) = true then l.map (fun kv => if kv.1 = k then (kv.1, v) else kv) else l ++ [(k, v)]
def ky (n : Nat) : Key := .inl (n : Int)
def toK (l : AL) : List (Key × V) := l.map fun kv => (ky kv.1, vi kv.2)
theorem ky_inj {a b : Nat} : ky a = ky b ↔ a = b := by
  unfold ky
  rw [Sum.inl.injEq]
  exact Int.ofNat_inj
theorem toK_val (l : AL) (k : Nat) : valV (toK l) (ky k) = (lk l k).map vi := by
  unfold valV lk toK
  induction l with
  | nil => rfl
  | cons kv r ih =>
    rw [List.map_cons, List.find?_cons, List.find?_cons]
    by_cases h : kv.1 = k
    · rw [decide_eq_true (ky_inj.mpr h), decide_eq_true h]
      rfl
    · rw [decide_eq_false (fun c => h (ky_inj.mp c)), decide_eq_false h]
      exact ih
theorem toK_put (l : AL) (k v : Nat) : putK (toK l) (ky k) (vi v) = toK (pt l k v) := by
  have ea : ((toK l).any fun kv => decide (kv.1 = ky k)) = l.any fun kv => decide (kv.1 = k) := by
    unfold toK
    rw [List.any_map]
    congr 1
    funext kv
    exact decide_eq_decide.mpr ky_inj
  unfold putK pt
  rw [ea]
  split
  · unfold toK
    rw [List.map_map, List.map_map]
    apply List.map_congr_left
    intro kv _
    show (if ky kv.1 = ky k then _ else _) = _
    by_cases h : kv.1 = k
    · rw [if_pos (ky_inj.mpr h)]
      show _ = (fun kv : Nat × Nat => (ky kv.1, vi kv.2)) (if kv.1 = k then (kv.1, v) else kv)
      rw [if_pos h]
    · rw [if_neg (fun c => h (ky_inj.mp c))]
      show _ = (fun kv : Nat × Nat => (ky kv.1, vi kv.2)) (if kv.1 = k then (kv.1, v) else kv)
      rw [if_neg h]
  · unfold toK
    rw [List.map_append]
    rfl
theorem pt_len (l : AL) (k v : Nat) : (pt l k v).length ≤ l.length + 1 := by
  unfold pt
  split
  · rw [List.length_map]
    exact Nat.le_succ _
  · rw [List.length_append]
    exact Nat.le_refl _
theorem toK_len (l : AL) : (toK l).length = l.length := by
  unfold toK
  rw [List.length_map]
def fbM (bits : List Nat) (there : List Nat) (x : Nat) : List Nat := there.filter fun p => decide (p ≠ x) && oneM bits x p
def innerM (later : AL) (here : Nat) : List Nat → AL → List Nat → AL × List Nat × Option Nat
  | [], came, wt => (came, wt, none)
  | p :: r, came, wt => match lk came p with
    | some _ => innerM later here r came wt
    | none => match lk later p with
      | none => (pt came p here, wt, some p)
      | some q => innerM later here r (pt came p here) (wt ++ [q])
def outerM (bits : List Nat) (there : List Nat) (later : AL) : Nat → AL → List Nat → Nat → Option (AL × Option Nat)
  | 0, _, _, _ => none
  | f + 1, came, wt, at_ => match wt[at_]? with
    | none => some (came, none)
    | some here => if here < bits.length ∧ wt.length ≤ 900 ∧ came.length ≤ 900 then
        (match innerM later here (fbM bits there here) came wt with
        | (came', _, some p) => some (came', some p)
        | (came', wt', none) => outerM bits there later f came' wt' (at_ + 1))
      else none
def joinM (came : AL) (x : Nat) : Nat → AL → AL → Nat → Nat → Option (AL × AL)
  | 0, _, _, _, _ => none
  | f + 1, later, ahead, p, here => if later.length ≤ 900 ∧ ahead.length ≤ 900 then
      (if here = x then some (pt later p x, pt ahead x p) else match lk ahead here with
      | none => none
      | some old => match lk came old with
        | none => none
        | some h' => joinM came x f (pt later p here) (pt ahead here p) old h')
    else none
structure RS where
  later : AL
  ahead : AL
  there : List Nat
def putRM (bits : List Nat) (fuel : Nat) (s : RS) (x : Nat) : Option RS :=
  if s.there.length ≤ 100 then
    match outerM bits (s.there ++ [x]) s.later fuel [] [x] 0 with
    | none => none
    | some (_, none) => some ⟨s.later, s.ahead, s.there ++ [x]⟩
    | some (came, some p) => match lk came p with
      | none => none
      | some here => match joinM came x fuel s.later s.ahead p here with
        | none => none
        | some (l, a) => some ⟨l, a, s.there ++ [x]⟩
  else none
def allRM (bits : List Nat) (fuel : Nat) : List Nat → RS → Option RS
  | [], s => some s
  | x :: r, s => match putRM bits fuel s x with
    | none => none
    | some s' => allRM bits fuel r s'
/-! ### what stands in the heap -/
def fRows (b la ah th : Addr) : List (Str × V) := [("sheet", .ref b), ("later", .ref la), ("ahead", .ref ah), ("there", .ref th)]
theorem fRows_sheet (b la ah th : Addr) : (fRows b la ah th).lookup ("sheet" : Str) = some (V.ref b) := rfl
theorem fRows_later (b la ah th : Addr) : (fRows b la ah th).lookup ("later" : Str) = some (V.ref la) := rfl
theorem fRows_ahead (b la ah th : Addr) : (fRows b la ah th).lookup ("ahead" : Str) = some (V.ref ah) := rfl
theorem fRows_there (b la ah th : Addr) : (fRows b la ah th).lookup ("there" : Str) = some (V.ref th) := rfl
structure RoX (K : PySem.W.Frag) (H : Hp) (z dx b la ah th : Addr) (s : RS) : Prop where
  hz : H z = some (.ins (ga K "Rows") dx (fRows b la ah th))
  hl : H la = some (.dK (toK s.later))
  ha : H ah = some (.dK (toK s.ahead))
  ht : H th = some (.lst (s.there.map vi))
  ne : la ≠ ah
/-- young -/
def Yr (H : Hp) (z la ah th : Addr) : Prop := H z = none ∧ H la = none ∧ H ah = none ∧ H th = none
section
variable {H H' : Hp} {z dx b la ah th c : Addr} {s : RS}
theorem RoX.same (e : Same H H') (r : RoX K H z dx b la ah th s) : RoX K H' z dx b la ah th s := ⟨e _ _ r.hz, e _ _ r.hl, e _ _ r.ha, e _ _ r.ht, r.ne⟩
theorem RoX.ns (r : RoX K H z dx b la ah th s) : la ≠ z ∧ ah ≠ z ∧ th ≠ z ∧ la ≠ th ∧ ah ≠ th :=
  ⟨ne_of r.hl r.hz (by intro c; cases c), ne_of r.ha r.hz (by intro c; cases c), ne_of r.ht r.hz (by intro c; cases c), ne_of r.hl r.ht (by intro c; cases c), ne_of r.ha r.ht (by intro c; cases c)⟩
/-- another thing is written -/
theorem RoX.other {o : HO} (r : RoX K H z dx b la ah th s) (h1 : c ≠ z) (h2 : c ≠ la) (h3 : c ≠ ah) (h4 : c ≠ th) : RoX K (upd H c o) z dx b la ah th s :=
  ⟨by rw [upd_ne h1.symm]; exact r.hz, by rw [upd_ne h2.symm]; exact r.hl, by rw [upd_ne h3.symm]; exact r.ha, by rw [upd_ne h4.symm]; exact r.ht, r.ne⟩
theorem RoX.setLater {l : AL} (r : RoX K H z dx b la ah th s) : RoX K (upd H la (.dK (toK l))) z dx b la ah th ⟨l, s.ahead, s.there⟩ := by
  obtain ⟨n1, n2, n3, n4, n5⟩ := r.ns
  exact ⟨by rw [upd_ne n1.symm]; exact r.hz, upd_same, by rw [upd_ne r.ne.symm]; exact r.ha, by rw [upd_ne n4.symm]; exact r.ht, r.ne⟩
theorem RoX.setAhead {l : AL} (r : RoX K H z dx b la ah th s) : RoX K (upd H ah (.dK (toK l))) z dx b la ah th ⟨s.later, l, s.there⟩ := by
  obtain ⟨n1, n2, n3, n4, n5⟩ := r.ns
  exact ⟨by rw [upd_ne n2.symm]; exact r.hz, by rw [upd_ne r.ne]; exact r.hl, upd_same, by rw [upd_ne n5.symm]; exact r.ht, r.ne⟩
theorem RoX.setThere {l : List Nat} (r : RoX K H z dx b la ah th s) : RoX K (upd H th (.lst (l.map vi))) z dx b la ah th ⟨s.later, s.ahead, l⟩ := by
  obtain ⟨n1, n2, n3, n4, n5⟩ := r.ns
  exact ⟨by rw [upd_ne n3.symm]; exact r.hz, by rw [upd_ne n4]; exact r.hl, by rw [upd_ne n5]; exact r.ha, upd_same, r.ne⟩
end
def spRoInit (K : PySem.W.Frag) : Sp := fun vs H Q _ => ∃ (z b dx : Addr), vs = [.ref z, .ref b] ∧ H z = some (.ins (ga K "Rows") dx []) ∧
  ∀ la ah th H', But z H H' → H la = none → H ah = none → H th = none → RoX K H' z dx b la ah th ⟨[], [], []⟩ → Q .non H'
theorem ok_Rows_init (T : Tx K mg) (F : Fx K) : DefOk P w K mg base CX0 1 (ma K (ga K "Rows") "__init__") ["self", "book"] (spRoInit K) := by
  refine def0 F.f_Rows_init bd_Rows_init sc_Rows_init (fun vs H Q E h => ?_) (fun cdv A outer s0 H vs Q E hr h => ?_)
  · obtain ⟨z, b, dx, rfl, _⟩ := h
    rfl
  · obtain ⟨z, b, dx, rfl, hz, k⟩ := h
    refine ⟨_, pss_cons (ps_fld (pv 0) (pv 1) (by rfl)) (pss_cons (ps_fld (pv 0) pe_dnewK (by rfl)) (pss_cons (ps_fld (pv 0) pe_dnewK (by rfl)) (pss_one (ps_fld (pv 0) (pe_lst pa_nil) (by rfl))))), ?_⟩
    refine ⟨_, rfl, _, rfl, z, _, dx, _, rfl, hz, T.c_Rows, T.n_Rows_sheet, by decide, fun la hla => ?_⟩
    have n1 : la ≠ z := by intro e; rw [e, upd_same] at hla; cases hla
    rw [upd_ne n1] at hla
    refine ⟨_, rfl, z, _, dx, _, rfl, by rw [upd_ne n1.symm, upd_same], T.c_Rows, T.n_Rows_later, by show 1 < 1000; decide, fun ah hah => ?_⟩
    have n2 : ah ≠ z := by intro e; rw [e, upd_same] at hah; cases hah
    rw [upd_ne n2] at hah
    have n3 : ah ≠ la := by intro e; rw [e, upd_same] at hah; cases hah
    rw [upd_ne n3, upd_ne n2] at hah
    refine ⟨_, rfl, z, _, dx, _, rfl, by rw [upd_ne n2.symm, upd_same], T.c_Rows, T.n_Rows_ahead, by show 2 < 1000; decide, l0, fun th hth => ?_⟩
    have n4 : th ≠ z := by intro e; rw [e, upd_same] at hth; cases hth
    rw [upd_ne n4] at hth
    have n5 : th ≠ ah := by intro e; rw [e, upd_same] at hth; cases hth
    rw [upd_ne n5, upd_ne n4] at hth
    have n6 : th ≠ la := by intro e; rw [e, upd_same] at hth; cases hth
    rw [upd_ne n6, upd_ne n4] at hth
    refine ⟨_, rfl, z, _, dx, _, rfl, by rw [upd_ne n4.symm, upd_same], T.c_Rows, T.n_Rows_there, by show 3 < 1000; decide, ?_⟩
    refine k la ah th _ (fun y o n h => ?_) hla hah hth ⟨upd_same, ?_, ?_, ?_, n3.symm⟩
    · have a1 : y ≠ la := ne_of_none h hla
      have a2 : y ≠ ah := ne_of_none h hah
      have a3 : y ≠ th := ne_of_none h hth
      rw [upd_ne n, upd_ne a3, upd_ne n, upd_ne a2, upd_ne n, upd_ne a1, upd_ne n]
      exact h
    · rw [upd_ne n1, upd_ne n6.symm, upd_ne n1, upd_ne n3.symm, upd_ne n1, upd_same]
      rfl
    · rw [upd_ne n2, upd_ne n5.symm, upd_ne n2, upd_same]
      rfl
    · rw [upd_ne n4, upd_same]
      rfl
def spFore (K : PySem.W.Frag) : Sp := fun vs H Q _ => ∃ (z dx b la ah th g : Addr) (s : RS) (rows : List (List Nat)) (x : Nat), vs = [.ref z, vi x] ∧ RoX K H z dx b la ah th s ∧ BookAt K g H b rows ∧ x < rows.length ∧ s.there.length ≤ 101 ∧
  ∀ l H', Same H H' → H l = none → H' l = some (.lst ((fbM (runM rows).bits s.there x).map vi)) → Q (.ref l) H'
theorem ok_Rows_fore (T : Tx K mg) (F : Fx K) : DefOk P w K mg base CX0 2 (ma K (ga K "Rows") "forebears_here") ["self", "x"] (spFore K) := by
  have D1 := ok_is_one (P := P) (w := w) (base := base) T F
  have nd := sc_Rows_forebears_here.nd
  refine def0 F.f_Rows_forebears_here bd_Rows_forebears_here sc_Rows_forebears_here (fun vs H Q E h => ?_) (fun cdv A outer s0 H vs Q E hr h => ?_)
  · obtain ⟨z, dx, b, la, ah, th, g, s, rows, x, rfl, _⟩ := h
    rfl
  · obtain ⟨z, dx, b, la, ah, th, g, s, rows, x, rfl, R, B, hx, hl, k⟩ := h
    refine ⟨_, pss_one (ps_ret (pe_lc (own := [("p", 2)]) (g := gName 2) (tt := tAnd (tTest (tOp rNe (tVar 2) (tVar 1))) (tB (cCall (spIsOne K) E0 (tCons (tFld K (tVar 0) "sheet") (tCons (tVar 1) (tCons (tVar 2) tNil)))))) rfl nd (pi_list (pe_fld (pv 0) (by rfl))) (blkOk_by (N := N_Rows_forebears_here) (sc := defScope s_Rows_forebears_here) (by decide +kernel))
      (fun _ _ _ _ _ => pg_name (i := 2) nd rfl (Or.inl rfl)) (fun _ _ _ _ _ => pts_one (pw_and (pt_cmpR op_ne (pv 2) (pv 1) (nomark _)) (pw_and1 (pt_val (pe_cal D1 hr (by rfl) T.g_is_one pass0 (pa_cons (pe_fld (pv 0) (by rfl)) (pa_cons (pv 1) (pa_cons (pv 2) pa_nil))))))).pt) (fun _ _ _ _ _ => pv 2))), ?_⟩
    refine ⟨_, rfl, z, _, dx, _, _, rfl, R.hz, T.c_Rows, T.n_Rows_there, fRows_there b la ah th, th, rfl, ⟨_, .of R.ht⟩, fun D hD => lc_list (K := K) (a := th) (xs := s.there.map vi) (fun i H' => Same H H' ∧ H' D = some (.lst ((fbM (runM rows).bits (s.there.take i) x).map vi)))
      ⟨Same.new hD, by rw [List.take_zero]; exact upd_same⟩ (fun i H' _ ⟨e, _⟩ => .of (e _ _ R.ht)) ?_ ?_⟩
    · rintro i y H' hi ⟨e, q⟩
      obtain ⟨p, hp, rfl⟩ := get_map hi
      have fs := filter_snoc (fun p => decide (p ≠ x) && oneM (runM rows).bits x p) hp
      refine ⟨rfl, _, rfl, _, rfl, rfl, _, rfl, ?_⟩
      have ed : (!decide (V.int ((p : Nat) : Int) = V.int ((x : Nat) : Int))) = decide (p ≠ x) := by
        by_cases c : p = x
        · subst c
          simp
        · rw [decide_eq_true c, decide_eq_false (by intro e; exact c (by exact_mod_cast (V.int.inj e)))]
          rfl
      rw [ed]
      have keep : (decide (p ≠ x) && oneM (runM rows).bits x p) = false → Same H H' ∧ H' D = some (.lst ((fbM (runM rows).bits (s.there.take (i + 1)) x).map vi)) := by
        intro hc
        rw [if_neg (by rw [hc]; exact Bool.false_ne_true), List.append_nil] at fs
        refine ⟨e, ?_⟩
        unfold fbM at q ⊢
        rw [fs]
        exact q
      cases hc : decide (p ≠ x) with
      | false =>
        rw [hc] at keep
        refine iteF (A := True) ?_
        refine iteF (A := True) ?_
        exact keep rfl
      | true =>
        refine iteT (B := True) ?_
        refine ⟨_, rfl, z, _, dx, _, _, rfl, e _ _ R.hz, T.c_Rows, T.n_Rows_sheet, fRows_sheet b la ah th, _, rfl, _, rfl, b, g, rows, x, p, rfl, B.same e, hx, _, rfl, ?_⟩
        cases hc2 : oneM (runM rows).bits x p with
        | false =>
          rw [hc, hc2] at keep
          refine iteF (A := True) ?_
          exact keep rfl
        | true =>
          rw [if_pos (by rw [hc, hc2]; rfl)] at fs
          refine iteT (B := True) ?_
          refine ⟨_, rfl, _, q, ?_, same_upd hD e, ?_⟩
          · rw [List.length_map]
            exact small1000 (Nat.le_trans (List.length_filter_le _ _) (Nat.le_trans (by rw [List.length_take]; exact Nat.min_le_right _ _) (by omega)))
          · unfold fbM
            rw [upd_same, fs, List.map_append]
            rfl
    · rintro H1 ⟨e, q⟩
      rw [List.length_map, List.take_length] at q
      exact k D H1 e hD q
def spRoMany (K : PySem.W.Frag) : Sp := fun vs H Q _ => ∃ (z dx b la ah th : Addr) (s : RS), vs = [.ref z] ∧ RoX K H z dx b la ah th s ∧ Q (.int ((s.there.length : Nat) - (s.ahead.length : Nat))) H
theorem ok_Rows_many (T : Tx K mg) (F : Fx K) : DefOk P w K mg base CX0 1 (ma K (ga K "Rows") "many") ["self"] (spRoMany K) := by
  refine def0 F.f_Rows_many bd_Rows_many sc_Rows_many (fun vs H Q E h => ?_) (fun cdv A outer s0 H vs Q E hr h => ?_)
  · obtain ⟨z, dx, b, la, ah, th, s, rfl, _⟩ := h
    rfl
  · obtain ⟨z, dx, b, la, ah, th, s, rfl, R, k⟩ := h
    refine ⟨_, pss_one (ps_ret (pe_op op_sub (pe_callB call_len (by rfl) T.b_len (by decide +kernel) (pa_cons (pe_fld (pv 0) (by rfl)) pa_nil)) (pe_callB call_lenD (by rfl) T.b_len (by decide +kernel) (pa_cons (pe_fld (pv 0) (by rfl)) pa_nil)))), ?_⟩
    refine ⟨_, rfl, z, _, dx, _, _, rfl, R.hz, T.c_Rows, T.n_Rows_there, fRows_there b la ah th, _, _, rfl, .inl ⟨_, .of R.ht, rfl⟩, _, rfl, z, _, dx, _, _, rfl, R.hz, T.c_Rows, T.n_Rows_ahead, fRows_ahead b la ah th, ah, _, rfl, R.ha, _, _, rfl, rfl, ?_⟩
    rw [toK_len, List.length_map]
    exact k
end
end Lk
set_option Elab.async false
set_option linter.all false
set_option maxRecDepth 100000
set_option maxHeartbeats 4000000
namespace Lk
open PySem PySem.Spec PyProof.Rows L2
open He (ga ma)
section
variable {P : Program} {w : World} {K : PySem.W.Frag} {mg : Str → Option Value} {base : Heap}
theorem dput {H : Hp} {a : Addr} {l : AL} {k v : Nat} (e : H a = some (.dK (toK l))) (hl : l.length ≤ 1000) : DPut H a (vi k) (vi v) (upd H a (.dK (toK (pt l k v)))) := by
  rw [← toK_put]
  exact DPut.k (k := ky k) e (by rw [toK_len]; exact small1000 hl)
theorem din {H : Hp} {a : Addr} {l : AL} {k : Nat} (e : H a = some (.dK (toK l))) : DGet H a (vi k) ((lk l k).map vi) := by
  rw [← toK_val]
  exact DGet.k (k := ky k) e
theorem dget {H : Hp} {a : Addr} {l : AL} {k v : Nat} (e : H a = some (.dK (toK l))) (h : lk l k = some v) : DGet H a (vi k) (some (vi v)) := by
  have := din (k := k) e
  rw [h] at this
  exact this
def But2 (a b : Addr) (H H' : Hp) : Prop := ∀ c o, c ≠ a → c ≠ b → H c = some o → H' c = some o
theorem But2.refl (a b : Addr) (H : Hp) : But2 a b H H := fun _ _ _ _ h => h
theorem But2.upd1 {a b : Addr} {H H1 : Hp} {o : HO} (h : But2 a b H H1) : But2 a b H (upd H1 a o) := fun c u n1 n2 e => by rw [upd_ne n1]; exact h c u n1 n2 e
theorem But2.upd2 {a b : Addr} {H H1 : Hp} {o : HO} (h : But2 a b H H1) : But2 a b H (upd H1 b o) := fun c u n1 n2 e => by rw [upd_ne n2]; exact h c u n1 n2 e
theorem joinM_succ (came : AL) (x f : Nat) (later ahead : AL) (p here : Nat) : joinM came x (f + 1) later ahead p here = if later.length ≤ 900 ∧ ahead.length ≤ 900 then
      (if here = x then some (pt later p x, pt ahead x p) else match lk ahead here with
      | none => none
      | some old => match lk came old with
        | none => none
        | some h' => joinM came x f (pt later p here) (pt ahead here p) old h')
    else none := rfl
theorem dec_vi (a b : Nat) : decide (V.int ((a : Nat) : Int) = V.int ((b : Nat) : Int)) = decide (a = b) := by
  apply decide_eq_decide.mpr
  rw [V.int.injEq]
  exact Int.ofNat_inj
def spJoin (K : PySem.W.Frag) : Sp := fun vs H Q _ => ∃ (z dx b la ah th c : Addr) (s : RS) (came : AL) (p x here fuel : Nat) (l' a' : AL), vs = [.ref z, vi p, .ref c, vi x] ∧ RoX K H z dx b la ah th s ∧ H c = some (.dK (toK came)) ∧ c ≠ la ∧ c ≠ ah ∧
  lk came p = some here ∧ joinM came x fuel s.later s.ahead p here = some (l', a') ∧ ∀ H', But2 la ah H H' → RoX K H' z dx b la ah th ⟨l', a', s.there⟩ → Q .non H'
theorem ok_Rows_join (T : Tx K mg) (F : Fx K) : DefOk P w K mg base CX0 1 (ma K (ga K "Rows") "join") ["self", "p", "came", "x"] (spJoin K) := by
  have nd := sc_Rows_join.nd
  refine def0 F.f_Rows_join bd_Rows_join sc_Rows_join (fun vs H Q E h => ?_) (fun cdv A outer s0 H vs Q E hr h => ?_)
  · obtain ⟨z, dx, b, la, ah, th, c, s, came, p, x, here, fuel, l', a', rfl, _⟩ := h
    rfl
  · obtain ⟨z, dx, b, la, ah, th, c, s, came, p, x, here, fuel, l', a', rfl, R, hc, n1, n2, hp, hj, k⟩ := h
    refine ⟨_, pss_cons (ps_set (i := 4) nd rfl (Or.inl rfl) (pe_dget (hu_of hr) (pv 2) (pv 1) (fun _ _ => rfl)))
      (pss_cons (ps_while PassesOwn.never (pt_cmpR op_ne (pv 4) (pv 3) (nomark _))
        (pss_cons (ps_set (i := 5) nd rfl (Or.inl rfl) (pe_dget (hu_of hr) (pe_fld (pv 0) (by rfl)) (pv 4) (fun _ _ => rfl)))
        (pss_cons (ps_dput (hu_of hr) (pe_fld (pv 0) (by rfl)) (pv 4) (pv 1) (by rfl))
        (pss_cons (ps_dput (hu_of hr) (pe_fld (pv 0) (by rfl)) (pv 1) (pv 4) (by rfl))
        (pss_cons (ps_set (i := 1) nd rfl (Or.inl rfl) (pv 5))
        (pss_one (ps_set (i := 4) nd rfl (Or.inl rfl) (pe_dget (hu_of hr) (pv 2) (pv 1) (fun _ _ => rfl)))))))))
      (pss_cons (ps_dput (hu_of hr) (pe_fld (pv 0) (by rfl)) (pv 3) (pv 1) (by rfl))
      (pss_one (ps_dput (hu_of hr) (pe_fld (pv 0) (by rfl)) (pv 1) (pv 3) (by rfl))))), ?_⟩
    refine ⟨_, rfl, _, rfl, c, _, rfl, dget hc hp, ?_⟩
    refine ⟨fun m σ H' => ∃ p here later ahead v5, σ = [some (.ref z), some (vi p), some (.ref c), some (vi x), some (vi here), v5] ∧ joinM came x m later ahead p here = some (l', a') ∧ lk came p = some here ∧ But2 la ah H H' ∧ RoX K H' z dx b la ah th ⟨later, ahead, s.there⟩,
      ⟨fuel, p, here, s.later, s.ahead, none, rfl, hj, hp, But2.refl _ _ _, R⟩, ?_⟩
    rintro m σ H' ⟨p, here, later, ahead, v5, rfl, hj, hp, bt, R⟩
    have hc' : H' c = some (.dK (toK came)) := bt _ _ n1 n2 hc
    cases m with
    | zero => cases hj
    | succ m' =>
      rw [joinM_succ] at hj
      by_cases hsz : later.length ≤ 900 ∧ ahead.length ≤ 900
      · rw [if_pos hsz] at hj
        refine ⟨_, rfl, _, rfl, rfl, _, rfl, ?_⟩
        rw [dec_vi]
        by_cases hx : here = x
        · rw [if_pos hx] at hj
          rw [decide_eq_true hx]
          refine iteF (A := True) ?_
          cases hj
          refine ⟨_, rfl, _, rfl, z, _, dx, _, _, rfl, R.hz, T.c_Rows, T.n_Rows_ahead, fRows_ahead b la ah th, _, rfl, ah, _, rfl, dput R.ha (by show ahead.length ≤ 1000; omega), ?_⟩
          have R2 := R.setAhead (l := pt ahead x p)
          refine ⟨_, rfl, _, rfl, z, _, dx, _, _, rfl, R2.hz, T.c_Rows, T.n_Rows_later, fRows_later b la ah th, _, rfl, la, _, rfl, dput R2.hl (by show later.length ≤ 1000; omega), ?_⟩
          exact k _ (bt.upd2.upd1) (R2.setLater (l := pt later p x))
        · rw [if_neg hx] at hj
          rw [decide_eq_false hx]
          refine iteT (B := True) ?_
          cases ho : lk ahead here with
          | none =>
            rw [ho] at hj
            cases hj
          | some old =>
            rw [ho] at hj
            cases hh : lk came old with
            | none =>
              simp only [hh] at hj
              cases hj
            | some h' =>
              simp only [hh] at hj
              refine ⟨fun σ' H2 => ∃ p here later ahead v5, σ' = [some (.ref z), some (vi p), some (.ref c), some (vi x), some (vi here), v5] ∧ joinM came x m' later ahead p here = some (l', a') ∧ lk came p = some here ∧ But2 la ah H H2 ∧ RoX K H2 z dx b la ah th ⟨later, ahead, s.there⟩, fun σ' H2 q => ⟨m', Nat.lt_succ_self _, q⟩, ?_⟩
              refine ⟨_, rfl, z, _, dx, _, _, rfl, R.hz, T.c_Rows, T.n_Rows_ahead, fRows_ahead b la ah th, _, rfl, ah, _, rfl, dget R.ha ho, ?_⟩
              refine ⟨_, rfl, _, rfl, z, _, dx, _, _, rfl, R.hz, T.c_Rows, T.n_Rows_ahead, fRows_ahead b la ah th, _, rfl, ah, _, rfl, dput R.ha (by show ahead.length ≤ 1000; omega), ?_⟩
              have R2 := R.setAhead (l := pt ahead here p)
              refine ⟨_, rfl, _, rfl, z, _, dx, _, _, rfl, R2.hz, T.c_Rows, T.n_Rows_later, fRows_later b la ah th, _, rfl, la, _, rfl, dput R2.hl (by show later.length ≤ 1000; omega), ?_⟩
              refine ⟨_, rfl, _, rfl, _, rfl, c, _, rfl, dget (k := old) (v := h') (by rw [upd_ne n1, upd_ne n2]; exact hc') hh, ?_⟩
              exact ⟨old, h', _, _, _, rfl, hj, hh, bt.upd2.upd1, R2.setLater (l := pt later p here)⟩
      · rw [if_neg hsz] at hj
        cases hj
theorem innerM_cons (later : AL) (here p : Nat) (r : List Nat) (came : AL) (wt : List Nat) : innerM later here (p :: r) came wt = match lk came p with
    | some _ => innerM later here r came wt
    | none => match lk later p with
      | none => (pt came p here, wt, some p)
      | some q => innerM later here r (pt came p here) (wt ++ [q]) := rfl
theorem outerM_succ (bits there : List Nat) (later : AL) (f : Nat) (came : AL) (wt : List Nat) (a : Nat) : outerM bits there later (f + 1) came wt a = match wt[a]? with
    | none => some (came, none)
    | some here => if here < bits.length ∧ wt.length ≤ 900 ∧ came.length ≤ 900 then
        (match innerM later here (fbM bits there here) came wt with
        | (came', _, some p) => some (came', some p)
        | (came', wt', none) => outerM bits there later f came' wt' (a + 1))
      else none := rfl
def spRPut (K : PySem.W.Frag) : Sp := fun vs H Q _ => ∃ (H0 : Hp) (z dx b la ah th g : Addr) (s s' : RS) (rows : List (List Nat)) (x fuel : Nat), vs = [.ref z, vi x] ∧ RoX K H z dx b la ah th s ∧ BookAt K g H0 b rows ∧ Same H0 H ∧ Yr H0 z la ah th ∧
  putRM (runM rows).bits fuel s x = some s' ∧ ∀ H', Same H0 H' → RoX K H' z dx b la ah th s' → Q .non H'
theorem ok_Rows_put (T : Tx K mg) (F : Fx K) : DefOk P w K mg base CX0 3 (ma K (ga K "Rows") "put") ["self", "x"] (spRPut K) := by
  have D1 := ok_Rows_fore (P := P) (w := w) (base := base) T F
  have D2 := ok_Rows_join (P := P) (w := w) (base := base) T F
  have nd := sc_Rows_put.nd
  refine def0 F.f_Rows_put bd_Rows_put sc_Rows_put (fun vs H Q E h => ?_) (fun cdv A outer s0 H vs Q E hr h => ?_)
  · obtain ⟨H0, z, dx, b, la, ah, th, g, s, s', rows, x, fuel, rfl, _⟩ := h
    rfl
  · obtain ⟨H0, z, dx, b, la, ah, th, g, s, s', rows, x, fuel, rfl, R, B, S, Y, hj, k⟩ := h
    refine ⟨_, pss_cons (ps_expr (pe_bm PySem.F.plainAttrs_list PySem.F.slot_list_append PySem.F.type_list_append mt_append (pe_fld (pv 0) (by rfl)) (pa_cons (pv 1) pa_nil)))
      (pss_cons (ps_set (i := 2) nd rfl (Or.inl rfl) pe_dnewK)
      (pss_cons (ps_set (i := 3) nd rfl (Or.inl rfl) (pe_lst (pa_cons (pv 1) pa_nil)))
      (pss_cons (ps_set (i := 4) nd rfl (Or.inl rfl) pe_int)
      (pss_one (ps_while PassesOwn.never (pt_cmpR op_lt (pv 4) (pe_callB call_len (by rfl) T.b_len (by decide +kernel) (pa_cons (pv 3) pa_nil)) (nomark _))
        (pss_cons (ps_set (i := 5) nd rfl (Or.inl rfl) (pe_ix ix_list (pv 3) (pv 4) (fun _ _ => rfl)))
        (pss_cut (ps_aug (i := 4) nd rfl (Or.inl rfl) pe_int iop_add)
        (pss_one (ps_for PassesOwn.never rfl (pi_list (pe_met (pv 0) T.c_Rows T.m_Rows_forebears_here D1 hr pass0 (pa_cons (pv 5) pa_nil))) (pg_name (i := 6) nd rfl (Or.inl rfl))
          (pss_one (ps_if (pt_cmp (pc_dnotin (hu_of hr) (pv 6) (pv 2)))
            (pss_cons (ps_dput (hu_of hr) (pv 2) (pv 6) (pv 5) (by rfl))
            (pss_cons (ps_if (pt_cmp (pc_dnotin (hu_of hr) (pv 6) (pe_fld (pv 0) (by rfl))))
              (pss_cons (ps_expr (pe_met (pv 0) T.c_Rows T.m_Rows_join (D2.mono (by decide : 1 ≤ 2)) hr pass0 (pa_cons (pv 6) (pa_cons (pv 2) (pa_cons (pv 1) pa_nil)))))
              (pss_one ps_retN)) pss_nil)
            (pss_one (ps_expr (pe_bm PySem.F.plainAttrs_list PySem.F.slot_list_append PySem.F.type_list_append mt_append (pv 3) (pa_cons (pe_dget (hu_of hr) (pe_fld (pv 0) (by rfl)) (pv 6) (fun _ _ => rfl)) pa_nil)))))) pss_nil))))))))))), ?_⟩
    unfold putRM at hj
    by_cases hth : s.there.length ≤ 100
    rotate_left
    · rw [if_neg hth] at hj
      cases hj
    rw [if_pos hth] at hj
    refine ⟨_, rfl, z, _, dx, _, _, rfl, R.hz, T.c_Rows, T.n_Rows_there, fRows_there b la ah th, .inl ⟨rfl, _, .of R.ht⟩, _, rfl, th, _, vi x, rfl, rfl, R.ht, by rw [List.length_map]; exact small1000 (by omega), ?_⟩
    have R1 := R.setThere (l := s.there ++ [x])
    have S1 : Same H0 (upd H th (.lst ((s.there ++ [x]).map vi))) := same_upd Y.2.2.2 S
    rw [show s.there.map vi ++ [vi x] = (s.there ++ [x]).map vi by rw [List.map_append]; rfl]
    generalize upd H th (.lst ((s.there ++ [x]).map vi)) = H1 at R1 S1 ⊢
    intro c hc
    have c1 : c ≠ z := (ne_of_none R1.hz hc).symm
    have c2 : c ≠ la := (ne_of_none R1.hl hc).symm
    have c3 : c ≠ ah := (ne_of_none R1.ha hc).symm
    have c4 : c ≠ th := (ne_of_none R1.ht hc).symm
    have cy : H0 c = none := S1.free hc
    have R2 := R1.other (o := .dK []) c1 c2 c3 c4
    have S2 := same_upd (o := .dK []) cy S1
    refine ⟨_, rfl, l1, fun wl hwl => ?_⟩
    have w1 : wl ≠ z := (ne_of_none R2.hz hwl).symm
    have w2 : wl ≠ la := (ne_of_none R2.hl hwl).symm
    have w3 : wl ≠ ah := (ne_of_none R2.ha hwl).symm
    have w4 : wl ≠ th := (ne_of_none R2.ht hwl).symm
    have wy : H0 wl = none := S2.free hwl
    have R3 := R2.other (o := .lst [vi x]) w1 w2 w3 w4
    have S3 := same_upd (o := .lst [vi x]) wy S2
    have wc : wl ≠ c := (ne_of_none (upd_same (H := H1) (a := c) (o := .dK [])) hwl).symm
    have hc3 : upd (upd H1 c (.dK [])) wl (.lst [vi x]) c = some (.dK (toK [])) := by rw [upd_ne wc.symm, upd_same]; rfl
    have hw3 : upd (upd H1 c (.dK [])) wl (.lst [vi x]) wl = some (.lst ([x].map vi)) := upd_same
    generalize upd (upd H1 c (.dK [])) wl (.lst [vi x]) = H3 at R3 S3 hc3 hw3 ⊢
    generalize ho : outerM (runM rows).bits (s.there ++ [x]) s.later fuel [] [x] 0 = res at hj
    cases res with
    | none => cases hj
    | some res =>
    simp only [gName, L2.start, List.length_cons, List.length_nil, List.map_cons, List.map_nil, List.cons_append, List.nil_append, List.set_cons_succ, List.set_cons_zero]
    refine ⟨fun m σ H' => ∃ cm wt at_ v5 v6, σ = [some (.ref z), some (vi x), some (.ref c), some (.ref wl), some (vi at_), v5, v6] ∧ outerM (runM rows).bits (s.there ++ [x]) s.later m cm wt at_ = some res ∧ Same H0 H' ∧ RoX K H' z dx b la ah th ⟨s.later, s.ahead, s.there ++ [x]⟩ ∧ H' c = some (.dK (toK cm)) ∧ H' wl = some (.lst (wt.map vi)),
      ⟨fuel, [], [x], 0, none, none, rfl, ho, S3, R3, hc3, hw3⟩, ?_⟩
    clear ho
    rintro m σ H' ⟨cm, wt, at_, v5, v6, rfl, ho, S4, R4, hc4, hw4⟩
    cases m with
    | zero => cases ho
    | succ m' =>
      rw [outerM_succ] at ho
      refine ⟨_, rfl, _, rfl, _, _, rfl, .inl ⟨_, .of hw4, rfl⟩, _, _, rfl, rfl, _, rfl, ?_⟩
      rw [List.length_map]
      cases hw : wt[at_]? with
      | none =>
        rw [hw] at ho
        have hge : wt.length ≤ at_ := List.getElem?_eq_none_iff.mp hw
        rw [decide_eq_false (by omega)]
        refine iteF (A := True) ?_
        cases ho
        cases hj
        exact k _ S4 R4
      | some here =>
        simp only [hw] at ho
        have hlt : at_ < wt.length := (List.getElem?_eq_some_iff.mp hw).1
        rw [decide_eq_true (by exact_mod_cast hlt)]
        refine iteT (B := True) ?_
        by_cases hsz : here < (runM rows).bits.length ∧ wt.length ≤ 900 ∧ cm.length ≤ 900
        rotate_left
        · rw [if_neg hsz] at ho
          cases ho
        rw [if_pos hsz] at ho
        refine ⟨fun σ' H2 => ∃ cm wt at_ v5 v6, σ' = [some (.ref z), some (vi x), some (.ref c), some (.ref wl), some (vi at_), v5, v6] ∧ outerM (runM rows).bits (s.there ++ [x]) s.later m' cm wt at_ = some res ∧ Same H0 H2 ∧ RoX K H2 z dx b la ah th ⟨s.later, s.ahead, s.there ++ [x]⟩ ∧ H2 c = some (.dK (toK cm)) ∧ H2 wl = some (.lst (wt.map vi)),
          fun σ' H2 q => ⟨m', Nat.lt_succ_self _, q⟩, ?_⟩
        refine ⟨_, rfl, _, rfl, wl, _, _, _, rfl, rfl, .of hw4, atI_nat (map_get hw), fun σ H2 => σ = [some (.ref z), some (vi x), some (.ref c), some (.ref wl), some (.int ((at_ : Nat) + 1)), some (vi here), v6] ∧ H' = H2, ⟨_, rfl, _, _, rfl, rfl, rfl, rfl⟩, ?_⟩
        rintro σ _ ⟨rfl, rfl⟩
        have hx : here < rows.length := by rw [← (bits_len rows).1]; exact hsz.1
        have tl1 : (s.there ++ [x]).length ≤ 101 := by rw [List.length_append]; show s.there.length + 1 ≤ 101; omega
        refine ⟨_, rfl, z, dx, _, rfl, R4.hz, rfl, _, rfl, z, dx, b, la, ah, th, g, _, rows, here, rfl, R4, B.same S4, hx, tl1, fun L H5 e5 hLn hL => ?_⟩
        have fl : (fbM (runM rows).bits (s.there ++ [x]) here).length ≤ 101 := Nat.le_trans (List.length_filter_le _ _) tl1
        generalize hfb : fbM (runM rows).bits (s.there ++ [x]) here = fb at hL fl ho
        have S5 := S4.trans e5
        have Lw : L ≠ wl := (ne_of_none hw4 hLn).symm
        have Lc : L ≠ c := (ne_of_none hc4 hLn).symm
        refine ⟨L, rfl, ⟨_, .of hL⟩, for_list (K := K) (a := L) (xs := fb.map vi) (fun i σ H2 => ∃ cm' wt' v6, σ = [some (.ref z), some (vi x), some (.ref c), some (.ref wl), some (.int ((at_ : Nat) + 1)), some (vi here), v6] ∧ innerM s.later here (fb.drop i) cm' wt' = innerM s.later here fb cm wt ∧ Same H0 H2 ∧
          RoX K H2 z dx b la ah th ⟨s.later, s.ahead, s.there ++ [x]⟩ ∧ H2 c = some (.dK (toK cm')) ∧ H2 wl = some (.lst (wt'.map vi)) ∧ H2 L = some (.lst (fb.map vi)) ∧ i ≤ fb.length ∧ cm'.length ≤ 850 + 50 + i ∧ wt'.length ≤ 900 + i)
          ⟨cm, wt, _, rfl, rfl, S5, R4.same e5, e5 _ _ hc4, e5 _ _ hw4, hL, Nat.zero_le _, by omega, by omega⟩ (fun i σ H2 _ ⟨_, _, _, _, _, _, _, _, _, q, _⟩ => .of q) ?_ ?_⟩
        · rintro i y σ H2 hi ⟨cm', wt', v6', rfl, hin, S6, R6, hc6, hw6, hL6, hil, hcl, hwl6⟩
          obtain ⟨p, hp, rfl⟩ := get_map hi
          have hi1 : i < fb.length := (List.getElem?_eq_some_iff.mp hp).1
          rw [drop_get hp, innerM_cons] at hin
          refine ⟨_, rfl, _, rfl, c, _, rfl, din hc6, _, rfl, ?_⟩
          cases hlp : lk cm' p with
          | some v =>
            rw [hlp] at hin
            refine iteF (A := True) ?_
            exact ⟨cm', wt', _, rfl, hin, S6, R6, hc6, hw6, hL6, hi1, by omega, by omega⟩
          | none =>
            rw [hlp] at hin
            refine iteT (B := True) ?_
            refine ⟨_, rfl, _, rfl, _, rfl, c, _, rfl, dput hc6 (by omega), ?_⟩
            have R7 := R6.other (o := .dK (toK (pt cm' p here))) c1 c2 c3 c4
            have S7 := same_upd (o := .dK (toK (pt cm' p here))) cy S6
            have hc7 : upd H2 c (.dK (toK (pt cm' p here))) c = some (.dK (toK (pt cm' p here))) := upd_same
            have hw7 : upd H2 c (.dK (toK (pt cm' p here))) wl = some (.lst (wt'.map vi)) := by rw [upd_ne wc]; exact hw6
            have hL7 : upd H2 c (.dK (toK (pt cm' p here))) L = some (.lst (fb.map vi)) := by rw [upd_ne Lc]; exact hL6
            generalize upd H2 c (.dK (toK (pt cm' p here))) = H7 at R7 S7 hc7 hw7 hL7 ⊢
            refine ⟨_, rfl, _, rfl, z, _, dx, _, _, rfl, R7.hz, T.c_Rows, T.n_Rows_later, fRows_later b la ah th, la, _, rfl, din R7.hl, _, rfl, ?_⟩
            cases hlq : lk s.later p with
            | none =>
              simp only [hlq] at hin
              rw [← hin] at ho
              cases ho
              simp only [] at hj
              refine iteT (B := True) ?_
              cases hh : lk (pt cm' p here) p with
              | none =>
                rw [hh] at hj
                cases hj
              | some h1 =>
                simp only [hh] at hj
                cases hjm : joinM (pt cm' p here) x fuel s.later s.ahead p h1 with
                | none =>
                  rw [hjm] at hj
                  cases hj
                | some la' =>
                  rw [hjm] at hj
                  obtain ⟨l', a'⟩ := la'
                  cases hj
                  refine ⟨_, rfl, z, dx, _, rfl, R7.hz, rfl, _, rfl, _, rfl, _, rfl, z, dx, b, la, ah, th, c, _, pt cm' p here, p, x, h1, fuel, l', a', rfl, R7, hc7, c2, c3, hh, hjm, fun H8 bt R8 => ?_⟩
                  exact k H8 (fun y o h => bt y o (ne_of_none h Y.2.1) (ne_of_none h Y.2.2.1) (S7 y o h)) R8
            | some q =>
              simp only [hlq] at hin
              refine iteF (A := True) ?_
              refine ⟨_, rfl, .inl ⟨rfl, _, .of hw7⟩, _, rfl, z, _, dx, _, _, rfl, R7.hz, T.c_Rows, T.n_Rows_later, fRows_later b la ah th, _, rfl, la, _, rfl, dget R7.hl hlq, wl, _, vi q, rfl, rfl, hw7, by rw [List.length_map]; exact small1000 (by omega), ?_⟩
              refine ⟨pt cm' p here, wt' ++ [q], _, rfl, hin, same_upd wy S7, R7.other w1 w2 w3 w4, by rw [upd_ne wc.symm]; exact hc7, by rw [upd_same, List.map_append]; rfl, by rw [upd_ne Lw]; exact hL7, hi1, ?_, ?_⟩
              · have := pt_len cm' p here
                omega
              · rw [List.length_append]
                show wt'.length + 1 ≤ _
                omega
        · rintro σ H2 ⟨cm', wt', v6', rfl, hin, S6, R6, hc6, hw6, hL6, hil, hcl, hwl6⟩
          rw [List.length_map, List.drop_length] at hin
          have hin : (cm', wt', none) = innerM s.later here fb cm wt := hin
          rw [← hin] at ho
          exact ⟨cm', wt', at_ + 1, _, _, rfl, ho, S6, R6, hc6, hw6⟩
end
end Lk
set_option Elab.async false
set_option linter.all false
set_option maxRecDepth 100000
set_option maxHeartbeats 4000000
namespace Lk
open PySem PySem.Spec PyProof.Rows L2
open He (ga ma)
section
variable {P : Program} {w : World} {K : PySem.W.Frag} {mg : Str → Option Value} {base : Heap}
theorem lk_cons (kv : Nat × Nat) (l : AL) (k : Nat) : lk (kv :: l) k = if kv.1 = k then some kv.2 else lk l k := by
  unfold lk
  rw [List.find?_cons]
  by_cases h : kv.1 = k
  · rw [decide_eq_true h, if_pos h]
    rfl
  · rw [decide_eq_false h, if_neg h]
theorem lk_nil (k : Nat) : lk [] k = none := rfl
theorem lk_append (l : AL) (k j v : Nat) : lk (l ++ [(k, v)]) j = match lk l j with
    | some u => some u
    | none => if k = j then some v else none := by
  induction l with
  | nil =>
    rw [List.nil_append, lk_cons, lk_nil]
  | cons kv r ih =>
    rw [List.cons_append, lk_cons, lk_cons]
    split
    · rfl
    · exact ih
theorem lk_any (l : AL) (k : Nat) : (l.any fun kv => decide (kv.1 = k)) = (lk l k).isSome := by
  induction l with
  | nil => rfl
  | cons kv r ih =>
    rw [List.any_cons, lk_cons]
    by_cases h : kv.1 = k
    · rw [decide_eq_true h, if_pos h]
      rfl
    · rw [decide_eq_false h, if_neg h]
      exact ih
theorem lk_map (l : AL) (k j v : Nat) : lk (l.map fun kv => if kv.1 = k then (kv.1, v) else kv) j = (lk l j).map fun u => if j = k then v else u := by
  induction l with
  | nil => rfl
  | cons kv r ih =>
    rw [List.map_cons, lk_cons, lk_cons]
    by_cases h : kv.1 = k
    · rw [if_pos h]
      by_cases h2 : kv.1 = j
      · rw [if_pos h2, if_pos h2]
        show some v = some (if j = k then v else kv.2)
        rw [if_pos (h2.symm.trans h)]
      · rw [if_neg h2, if_neg h2]
        exact ih
    · rw [if_neg h]
      by_cases h2 : kv.1 = j
      · rw [if_pos h2, if_pos h2]
        show some kv.2 = some (if j = k then v else kv.2)
        rw [if_neg (fun c => h (h2.trans c))]
      · rw [if_neg h2, if_neg h2]
        exact ih
theorem lk_pt (l : AL) (k v j : Nat) : lk (pt l k v) j = if j = k then some v else lk l j := by
  unfold pt
  rw [lk_any]
  cases h : lk l k with
  | some u =>
    rw [if_pos (show (some u).isSome = true from rfl), lk_map]
    by_cases e : j = k
    · subst e
      rw [h]
      simp
    · simp only [if_neg e]
      cases lk l j <;> rfl
  | none =>
    rw [if_neg (by simp), lk_append]
    by_cases e : j = k
    · subst e
      rw [h]
    · rw [if_neg e, if_neg (fun c => e (Eq.symm c))]
      cases lk l j with
      | none => rfl
      | some u => rfl
theorem pt_new {l : AL} {k v : Nat} (h : lk l k = none) : pt l k v = l ++ [(k, v)] := by
  unfold pt
  rw [lk_any, h, if_neg (by simp)]
theorem lk_none {l : AL} {k : Nat} : lk l k = none ↔ k ∉ l.map (·.1) := by
  induction l with
  | nil => simp [lk_nil]
  | cons kv r ih =>
    rw [lk_cons, List.map_cons, List.mem_cons]
    by_cases h : kv.1 = k
    · rw [if_pos h]
      constructor
      · intro c
        cases c
      · intro c
        exact absurd (.inl h.symm) c
    · rw [if_neg h, ih]
      constructor
      · rintro c (d | d)
        · exact h d.symm
        · exact c d
      · intro c d
        exact c (.inr d)
theorem lk_at {l : AL} (nd : (l.map (·.1)).Nodup) {j p h : Nat} (e : l[j]? = some (p, h)) : lk l p = some h := by
  induction l generalizing j with
  | nil => simp at e
  | cons kv r ih =>
    rw [List.map_cons, List.nodup_cons] at nd
    cases j with
    | zero =>
      have : kv = (p, h) := by simpa using e
      rw [lk_cons, this, if_pos rfl]
    | succ j =>
      have e' : r[j]? = some (p, h) := by simpa using e
      have m : p ∈ r.map (·.1) := List.mem_map.mpr ⟨(p, h), List.mem_of_getElem? e', rfl⟩
      rw [lk_cons, if_neg (by intro c; rw [c] at nd; exact nd.1 m)]
      exact ih nd.2 e'
/-! ### the search -/
structure SJ (later : AL) (there : List Nat) (x k : Nat) (came : AL) (wt : List Nat) : Prop where
  len : wt.length = came.length + 1
  hd : wt[0]? = some x
  nd : (came.map (·.1)).Nodup
  sub : ∀ p ∈ came.map (·.1), p ∈ there
  lt : ∀ v ∈ wt, v < k
  back : ∀ (j : Nat) p h, came[j]? = some (p, h) → (∃ i, i ≤ j ∧ wt[i]? = some h) ∧ lk later p = wt[j + 1]?
theorem SJ.few {later : AL} {there : List Nat} {x k : Nat} {came : AL} {wt : List Nat} (s : SJ later there x k came wt) : came.length ≤ there.length := by
  have := List.Nodup.length_le_of_subset s.nd (fun p hp => s.sub p hp)
  rw [List.length_map] at this
  exact this
theorem SJ.add {later : AL} {there : List Nat} {x k : Nat} {came : AL} {wt : List Nat} (s : SJ later there x k came wt) {p here q i : Nat} (hp : lk came p = none) (hpt : p ∈ there) (hi : wt[i]? = some here) (hq : lk later p = some q) (hqk : q < k) :
    SJ later there x k (came ++ [(p, here)]) (wt ++ [q]) := by
  have hil : i < wt.length := (List.getElem?_eq_some_iff.mp hi).1
  refine ⟨by rw [List.length_append, List.length_append, s.len]; rfl, ?_, ?_, ?_, ?_, ?_⟩
  · rw [List.getElem?_append_left (by rw [s.len]; omega)]
    exact s.hd
  · rw [List.map_append]
    refine List.nodup_append.mpr ⟨s.nd, by simp, ?_⟩
    intro a ha b hb
    rw [List.mem_singleton.mp hb]
    intro c
    rw [c] at ha
    exact lk_none.mp hp ha
  · intro a ha
    rw [List.map_append] at ha
    rcases List.mem_append.mp ha with ha | ha
    · exact s.sub a ha
    · rw [List.mem_singleton.mp ha]
      exact hpt
  · intro a ha
    rcases List.mem_append.mp ha with ha | ha
    · exact s.lt a ha
    · rw [List.mem_singleton.mp ha]
      exact hqk
  · intro j a h e
    by_cases hj : j < came.length
    · rw [List.getElem?_append_left hj] at e
      obtain ⟨⟨i', h1, h2⟩, h3⟩ := s.back j a h e
      refine ⟨⟨i', h1, ?_⟩, ?_⟩
      · rw [List.getElem?_append_left (List.getElem?_eq_some_iff.mp h2).1]
        exact h2
      · rw [List.getElem?_append_left (by rw [s.len]; omega)]
        exact h3
    · have ej : j = came.length := by
        have := (List.getElem?_eq_some_iff.mp e).1
        rw [List.length_append] at this
        have t : j < came.length + 1 := this
        omega
      subst ej
      rw [List.getElem?_append_right (Nat.le_refl _)] at e
      have e' : (p, here) = (a, h) := by simpa using e
      cases e'
      refine ⟨⟨i, by have := s.len; omega, ?_⟩, ?_⟩
      · rw [List.getElem?_append_left hil]
        exact hi
      · rw [← s.len, List.getElem?_append_right (Nat.le_refl _)]
        simp [hq]
/-- a found one -/
def Fnd (later : AL) (there : List Nat) (x k : Nat) (came' : AL) (p : Nat) : Prop := ∃ (came : AL) (wt : List Nat) (h i : Nat), came' = came ++ [(p, h)] ∧ SJ later there x k came wt ∧ lk came p = none ∧ lk later p = none ∧ wt[i]? = some h
theorem inner_ok {later : AL} {there : List Nat} {x k here i : Nat} (hl : ∀ p q, lk later p = some q → q < k) : ∀ (fb : List Nat) (came : AL) (wt : List Nat), (∀ p ∈ fb, p ∈ there) → SJ later there x k came wt → wt[i]? = some here →
    (∃ came' wt', innerM later here fb came wt = (came', wt', none) ∧ SJ later there x k came' wt' ∧ wt'.length ≥ wt.length) ∨ ∃ came' wt' p, innerM later here fb came wt = (came', wt', some p) ∧ Fnd later there x k came' p
  | [], came, wt, _, s, hi => .inl ⟨came, wt, rfl, s, Nat.le_refl _⟩
  | p :: r, came, wt, hs, s, hi => by
    rw [innerM_cons]
    have hr : ∀ p ∈ r, p ∈ there := fun a m => hs a (by simp [m])
    have hpt : p ∈ there := hs p (by simp)
    cases hp : lk came p with
    | some v => exact inner_ok hl r came wt hr s hi
    | none =>
      cases hq : lk later p with
      | none => exact .inr ⟨_, wt, p, rfl, came, wt, here, i, pt_new hp, s, hp, hq, hi⟩
      | some q =>
        have s2 := s.add hp hpt hi hq (hl p q hq)
        have hi2 : (wt ++ [q])[i]? = some here := by
          rw [List.getElem?_append_left (List.getElem?_eq_some_iff.mp hi).1]
          exact hi
        simp only []
        rw [pt_new hp]
        rcases inner_ok hl r _ _ hr s2 hi2 with ⟨c', w', e, s3, hlen⟩ | h
        · refine .inl ⟨c', w', e, s3, ?_⟩
          rw [List.length_append] at hlen
          omega
        · exact .inr h
theorem outer_ok {bits : List Nat} {later : AL} {there : List Nat} {x k : Nat} (hl : ∀ p q, lk later p = some q → q < k) (hk : k ≤ bits.length) (ht : there.length ≤ 800) : ∀ (f : Nat) (came : AL) (wt : List Nat) (a : Nat), SJ later there x k came wt → there.length + 2 ≤ f + a → 1 ≤ f →
    (∃ came', outerM bits there later f came wt a = some (came', none)) ∨ ∃ came' p, outerM bits there later f came wt a = some (came', some p) ∧ Fnd later there x k came' p
  | 0, _, _, _, _, _, h => by omega
  | f + 1, came, wt, a, s, hf, _ => by
    rw [outerM_succ]
    cases hw : wt[a]? with
    | none => exact .inl ⟨came, rfl⟩
    | some here =>
      have hlt : a < wt.length := (List.getElem?_eq_some_iff.mp hw).1
      have few := s.few
      have hlen := s.len
      have hh : here < k := s.lt here (List.mem_of_getElem? hw)
      simp only []
      rw [if_pos ⟨by omega, by omega, by omega⟩]
      rcases inner_ok hl (fbM bits there here) came wt (fun p m => (List.mem_filter.mp m).1) s hw with ⟨c', w', e, s3, hl3⟩ | ⟨c', w', p, e, fd⟩
      · rw [e]
        simp only []
        refine outer_ok hl hk ht f c' w' (a + 1) s3 (by omega) ?_
        have := s3.few
        have := s3.len
        omega
      · rw [e]
        exact .inr ⟨c', p, rfl, fd⟩
/-! ### the exchange -/
structure Mt (later ahead : AL) : Prop where
  ab : ∀ q p, lk ahead q = some p → lk later p = some q
  ba : ∀ p q, lk later p = some q → lk ahead q = some p
structure MtX (later ahead : AL) (p : Nat) : Prop where
  ab : ∀ q p', lk ahead q = some p' → lk later p' = some q
  ba : ∀ p' q, p' ≠ p → lk later p' = some q → lk ahead q = some p'
  no : ∀ q, lk ahead q ≠ some p
theorem join_ok {came0 came : AL} {wt : List Nat} {x k : Nat} {later0 : AL} {there : List Nat} (s : SJ later0 there x k came wt) (hsub : ∀ p h, lk came p = some h → lk came0 p = some h) :
    ∀ (f i : Nat) (later ahead : AL) (p here : Nat), MtX later ahead p → lk ahead x = none → (∀ q, lk ahead q ≠ none → q < k) → wt[i]? = some here → (∀ j, j < i → ∀ pj hj, came[j]? = some (pj, hj) → ∃ v, wt[j + 1]? = some v ∧ lk ahead v = some pj) → i < f → later.length + f ≤ 900 → ahead.length + f ≤ 900 →
      ∃ l' a', joinM came0 x f later ahead p here = some (l', a') ∧ Mt l' a' ∧ (∀ q, lk a' q ≠ none → q < k ∨ q = x) ∧ l'.length ≤ later.length + f ∧ a'.length ≤ ahead.length + f
  | 0, i, _, _, _, _, _, _, _, _, _, h, _, _ => by omega
  | f + 1, i, later, ahead, p, here, m, hx, hk, hi, h5, hf, z1, z2 => by
    rw [joinM_succ, if_pos ⟨by omega, by omega⟩]
    have pl := pt_len later p x
    have pa := pt_len ahead x p
    by_cases e : here = x
    · subst e
      rw [if_pos rfl]
      refine ⟨_, _, rfl, ⟨fun q p' h => ?_, fun p' q h => ?_⟩, fun q h => ?_, by omega, by omega⟩
      · rw [lk_pt] at h ⊢
        by_cases c : q = here
        · rw [if_pos c] at h
          cases h
          rw [if_pos rfl, c]
        · rw [if_neg c] at h
          rw [if_neg (fun d => m.no q (by rw [← d]; exact h))]
          exact m.ab q p' h
      · rw [lk_pt] at h ⊢
        by_cases c : p' = p
        · rw [if_pos c] at h
          cases h
          rw [if_pos rfl, c]
        · rw [if_neg c] at h
          have := m.ba p' q c h
          rw [if_neg (fun d => by rw [d, hx] at this; cases this)]
          exact this
      · rw [lk_pt] at h
        by_cases c : q = here
        · exact .inr c
        · rw [if_neg c] at h
          exact .inl (hk q h)
    · rw [if_neg e]
      -- here is not x: its place is behind the first
      have hi0 : i ≠ 0 := by
        intro c
        rw [c, s.hd] at hi
        exact e (Option.some.inj hi).symm
      have hil : i < wt.length := (List.getElem?_eq_some_iff.mp hi).1
      have hlen := s.len
      have hci : i - 1 < came.length := by omega
      have ec : came[i - 1]? = some came[i - 1] := List.getElem?_eq_getElem hci
      generalize came[i - 1] = ph at ec
      obtain ⟨pi, hpi⟩ := ph
      obtain ⟨v, hv, hav⟩ := h5 (i - 1) (by omega) pi hpi ec
      rw [show i - 1 + 1 = i by omega, hi] at hv
      cases hv
      rw [hav]
      have hcl : lk came0 pi = some hpi := hsub _ _ (lk_at s.nd ec)
      simp only [hcl]
      obtain ⟨⟨i2, hi2, hw2⟩, _⟩ := s.back _ _ _ ec
      have npi : pi ≠ p := fun c => m.no here (by rw [← c]; exact hav)
      have pl2 := pt_len later p here
      have pa2 := pt_len ahead here p
      have ih := join_ok s hsub f i2 (pt later p here) (pt ahead here p) pi hpi ⟨fun q p' h => ?_, fun p' q n h => ?_, fun q h => ?_⟩ ?_ ?_ hw2 ?_ (by omega) (by omega) (by omega)
      · obtain ⟨l', a', h1, h2, h3, h4, h6⟩ := ih
        exact ⟨l', a', h1, h2, h3, by omega, by omega⟩
      · rw [lk_pt] at h ⊢
        by_cases c : q = here
        · rw [if_pos c] at h
          cases h
          rw [if_pos rfl, c]
        · rw [if_neg c] at h
          rw [if_neg (fun d => m.no q (by rw [← d]; exact h))]
          exact m.ab q p' h
      · rw [lk_pt] at h ⊢
        by_cases c : p' = p
        · rw [if_pos c] at h
          cases h
          rw [if_pos rfl, c]
        · rw [if_neg c] at h
          have := m.ba p' q c h
          rw [if_neg (fun d => by rw [d, hav] at this; exact n (Option.some.inj this).symm)]
          exact this
      · rw [lk_pt] at h
        by_cases c : q = here
        · rw [if_pos c] at h
          exact npi (Option.some.inj h).symm
        · rw [if_neg c] at h
          have a1 := m.ab q pi h
          have a2 := m.ab here pi hav
          rw [a1] at a2
          exact c (Option.some.inj a2)
      · rw [lk_pt, if_neg (fun c => e c.symm)]
        exact hx
      · intro q h
        rw [lk_pt] at h
        by_cases c : q = here
        · rw [c]
          exact s.lt here (List.mem_of_getElem? hi)
        · rw [if_neg c] at h
          exact hk q h
      · intro j hj pj hj' ej
        obtain ⟨v, hv, ha⟩ := h5 j (by omega) pj hj' ej
        refine ⟨v, hv, ?_⟩
        rw [lk_pt, if_neg]
        · exact ha
        · intro c
          rw [c, hav] at ha
          have e1 := lk_at s.nd ec
          have e2 := lk_at s.nd ej
          have pe : pi = pj := Option.some.inj ha
          subst pe
          -- the same key twice
          have n1 : (came.map (·.1))[i - 1]? = some pi := by rw [List.getElem?_map, ec]; rfl
          have n2 : (came.map (·.1))[j]? = some pi := by rw [List.getElem?_map, ej]; rfl
          have := (List.getElem?_inj (by rw [List.length_map]; omega) s.nd).mp (n1.trans n2.symm)
          omega
structure RSok (k F : Nat) (s : RS) : Prop where
  th : s.there = List.range k
  mt : Mt s.later s.ahead
  lt : ∀ q, lk s.ahead q ≠ none → q < k
  z1 : s.later.length ≤ k * F
  z2 : s.ahead.length ≤ k * F
theorem put_ok {bits : List Nat} {k F : Nat} {s : RS} (h : RSok k F s) (hk : k < bits.length) (hk2 : k ≤ 19) (hF : F = 25) : ∃ s', putRM bits F s k = some s' ∧ RSok (k + 1) F s' := by
  subst hF
  have tl : (s.there ++ [k]).length = k + 1 := by rw [List.length_append, h.th, List.length_range]; rfl
  have tr : s.there ++ [k] = List.range (k + 1) := by rw [h.th, List.range_succ]
  have hl : ∀ p q, lk s.later p = some q → q < k + 1 := fun p q e => by
    have := h.lt q (by rw [h.mt.ba p q e]; simp)
    omega
  have z1 := h.z1
  have z2 := h.z2
  unfold putRM
  rw [if_pos (by rw [h.th, List.length_range]; omega)]
  have s0 : SJ s.later (s.there ++ [k]) k (k + 1) [] [k] := ⟨rfl, rfl, by simp, by simp, by simp, fun j p h e => by simp at e⟩
  rcases outer_ok (bits := bits) hl (by omega) (by omega) 25 [] [k] 0 s0 (by omega) (by omega) with ⟨c', e⟩ | ⟨c', p, e, came, wt, hh, i, ec, sj, n1, n2, hi⟩
  · rw [e]
    exact ⟨_, rfl, tr, h.mt, fun q hq => Nat.lt_succ_of_lt (h.lt q hq), by show s.later.length ≤ (k + 1) * 25; omega, by show s.ahead.length ≤ (k + 1) * 25; omega⟩
  · rw [e]
    simp only []
    have el : lk c' p = some hh := by rw [ec, lk_append, n1, if_pos rfl]
    rw [el]
    have few := sj.few
    have hlen := sj.len
    have hil : i < wt.length := (List.getElem?_eq_some_iff.mp hi).1
    have jo := join_ok (came0 := c') sj (fun p1 h1 e1 => by rw [ec, lk_append, e1]) 25 i s.later s.ahead p hh ⟨h.mt.ab, fun p' q _ => h.mt.ba p' q, fun q c => by
      have := h.mt.ab q p c
      rw [n2] at this
      cases this⟩ (by
        cases c : lk s.ahead k with
        | none => rfl
        | some v => exact absurd (h.lt k (by rw [c]; simp)) (Nat.lt_irrefl _)) (fun q hq => Nat.lt_succ_of_lt (h.lt q hq)) hi (fun j hj pj hj' ej => by
        obtain ⟨_, h3⟩ := sj.back j pj hj' ej
        have hj2 : j + 1 < wt.length := by omega
        refine ⟨wt[j + 1], List.getElem?_eq_getElem hj2, ?_⟩
        rw [List.getElem?_eq_getElem hj2] at h3
        exact h.mt.ba _ _ h3) (by omega) (by omega) (by omega)
    obtain ⟨l', a', e2, m2, lt2, y1, y2⟩ := jo
    simp only [e2]
    refine ⟨_, rfl, tr, m2, fun q hq => ?_, by show l'.length ≤ (k + 1) * 25; omega, by show a'.length ≤ (k + 1) * 25; omega⟩
    rcases lt2 q hq with c | c <;> omega
theorem all_ok {bits : List Nat} : ∀ (m k : Nat) (s : RS), RSok k 25 s → k + m ≤ bits.length → k + m ≤ 20 → ∃ s', allRM bits 25 (List.range' k m) s = some s' ∧ RSok (k + m) 25 s'
  | 0, k, s, h, _, _ => ⟨s, rfl, h⟩
  | m + 1, k, s, h, h1, h2 => by
    obtain ⟨s', e, ok⟩ := put_ok (bits := bits) h (by omega) (by omega) rfl
    obtain ⟨s2, e2, ok2⟩ := all_ok (bits := bits) m (k + 1) s' ok (by omega) (by omega)
    refine ⟨s2, ?_, ?_⟩
    · rw [List.range'_succ]
      show (match putRM bits 25 s k with | none => none | some s' => allRM bits 25 (List.range' (k + 1) m) s') = some s2
      rw [e]
      exact e2
    · rw [show k + (m + 1) = k + 1 + m by omega]
      exact ok2
def widthM (rows : List (List Nat)) : Int := match allRM (runM rows).bits 25 (List.range rows.length) ⟨[], [], []⟩ with
  | some s => (s.there.length : Nat) - (s.ahead.length : Nat)
  | none => 0
theorem width_ok (rows : List (List Nat)) (h : rows.length ≤ 20) : ∃ s, allRM (runM rows).bits 25 (List.range rows.length) ⟨[], [], []⟩ = some s ∧ RSok rows.length 25 s := by
  have := all_ok (bits := (runM rows).bits) rows.length 0 ⟨[], [], []⟩ ⟨rfl, ⟨fun q p h => (by cases h), fun q p h => (by cases h)⟩, fun q h => absurd rfl h, Nat.zero_le _, Nat.zero_le _⟩ (by rw [(bits_len rows).1]; omega) (by omega)
  rw [List.range_eq_range']
  rw [Nat.zero_add] at this
  exact this
theorem width_small (rows : List (List Nat)) (h : rows.length ≤ 20) : (widthM rows).natAbs ≤ 1000 := by
  obtain ⟨s, e, ok⟩ := width_ok rows h
  unfold widthM
  rw [e]
  have z := ok.z2
  have t : s.there.length = rows.length := by rw [ok.th, List.length_range]
  show (((s.there.length : Nat) : Int) - ((s.ahead.length : Nat) : Int)).natAbs ≤ 1000
  omega
end
end Lk
set_option Elab.async false
set_option linter.all false
set_option maxRecDepth 100000
set_option maxHeartbeats 4000000
namespace Lk
open PySem PySem.Spec PyProof.Rows L2
open He (ga ma)
section
variable {P : Program} {w : World} {K : PySem.W.Frag} {mg : Str → Option Value} {base : Heap}
def spRowsOf (K : PySem.W.Frag) : Sp := fun vs H Q _ => ∃ (b l g : Addr) (rows : List (List Nat)) (kinds : List Nat) (s' : RS), vs = [.ref b, .ref l] ∧ BookAt K g H b rows ∧ LN H l kinds ∧ allRM (runM rows).bits 25 kinds ⟨[], [], []⟩ = some s' ∧
  ∀ z dx la ah th H', Same H H' → RoX K H' z dx b la ah th s' → Q (.ref z) H'
theorem ok_rows_of (T : Tx K mg) (F : Fx K) : DefOk P w K mg base CX0 5 (ga K "rows_of") ["book", "kinds"] (spRowsOf K) := by
  have D1 := ok_Rows_init (P := P) (w := w) (base := base) T F
  have D2 := ok_Rows_put (P := P) (w := w) (base := base) T F
  have nd := sc_rows_of.nd
  refine def0 F.f_rows_of bd_rows_of sc_rows_of (fun vs H Q E h => ?_) (fun cdv A outer s0 H vs Q E hr h => ?_)
  · obtain ⟨b, l, g, rows, kinds, s', rfl, _⟩ := h
    rfl
  · obtain ⟨b, l, g, rows, kinds, s', rfl, B, hl, hj, k⟩ := h
    refine ⟨_, pss_cons (ps_set (i := 2) nd rfl (Or.inl rfl) (pe_mak T.k_Rows (D1.mono (by decide : 1 ≤ 3)) hr (by rfl) T.g_Rows pass0 (pa_cons (pv 0) pa_nil)))
      (pss_cons (ps_for PassesOwn.never rfl (pi_list (pv 1)) (pg_name (i := 3) nd rfl (Or.inl rfl)) (pss_one (ps_expr (pe_met (pv 2) T.c_Rows T.m_Rows_put (D2.mono (by decide : 3 ≤ 4)) hr pass0 (pa_cons (pv 3) pa_nil)))))
      (pss_one (ps_ret (pv 2)))), ?_⟩
    refine ⟨_, rfl, fun z dx hz hdx hn => ⟨z, b, dx, rfl, upd_same, fun la ah th H1 bt yl ya yt R => ⟨rfl, ?_⟩⟩⟩
    have s1 : Same H H1 := mk_ins hz hdx hn bt
    have s00 := mk_ins0 (C := ga K "Rows") hz hdx hn
    have Y : Yr H z la ah th := ⟨hz, s00.free yl, s00.free ya, s00.free yt⟩
    refine ⟨_, rfl, l, rfl, ⟨_, .of (s1 _ _ hl)⟩, for_list (K := K) (a := l) (xs := kinds.map vi) (fun i σ H' => ∃ s v, σ = [some (.ref b), some (.ref l), some (.ref z), v] ∧ Same H H' ∧ RoX K H' z dx b la ah th s ∧ allRM (runM rows).bits 25 (kinds.drop i) s = some s')
      ⟨_, none, rfl, s1, R, hj⟩ (fun i σ H' _ ⟨_, _, _, e, _⟩ => .of (e _ _ hl)) ?_ ?_⟩
    · rintro i y σ H' hi ⟨s, v, rfl, e, R1, hj1⟩
      obtain ⟨x, hx, rfl⟩ := get_map hi
      rw [drop_get hx] at hj1
      have hj1 : (match putRM (runM rows).bits 25 s x with | none => none | some s' => allRM (runM rows).bits 25 (kinds.drop (i + 1)) s') = some s' := hj1
      cases hp : putRM (runM rows).bits 25 s x with
      | none =>
        rw [hp] at hj1
        cases hj1
      | some s2 =>
        rw [hp] at hj1
        exact ⟨_, rfl, z, dx, _, rfl, R1.hz, rfl, _, rfl, H, z, dx, b, la, ah, th, g, s, s2, rows, x, 25, rfl, R1, B, e, Y, hp, fun H2 e2 R2 => ⟨s2, _, rfl, e2, R2, hj1⟩⟩
    · rintro σ H' ⟨s, v, rfl, e, R1, hj1⟩
      rw [List.length_map, List.drop_length] at hj1
      cases hj1
      exact ⟨_, rfl, k z dx la ah th H' e R1⟩
def spAllK (K : PySem.W.Frag) : Sp := fun vs H Q _ => ∃ (b g : Addr) (rows : List (List Nat)), vs = [.ref b] ∧ BookAt K g H b rows ∧ rows.length ≤ 1000 ∧ ∀ l H', Same H H' → LN H' l (List.range rows.length) → Q (.ref l) H'
theorem ok_all_kinds (T : Tx K mg) (F : Fx K) : DefOk P w K mg base CX0 2 (ga K "all_kinds") ["book"] (spAllK K) := by
  have D1 := ok_many_of (P := P) (w := w) (base := base) T F
  refine def0 F.f_all_kinds bd_all_kinds sc_all_kinds (fun vs H Q E h => ?_) (fun cdv A outer s0 H vs Q E hr h => ?_)
  · obtain ⟨b, g, rows, rfl, _⟩ := h
    rfl
  · obtain ⟨b, g, rows, rfl, B, hl, k⟩ := h
    refine ⟨_, pss_one (ps_ret (pe_listRg rfl (by rfl) T.b_list (prg_1 (by rfl) T.b_range (pe_cal D1 hr (by rfl) T.g_many_of pass0 (pa_cons (pv 0) pa_nil))))), ?_⟩
    refine ⟨_, rfl, b, g, rows, rfl, B, _, rfl, RgOk.of_le (by omega) (by omega) (by omega) (by omega), fun q hq => k q _ (Same.new hq) ?_⟩
    show upd _ _ _ _ = _
    rw [upd_same]
    have e : rgV 0 ((rows.length : Nat) : Int) = (List.range rows.length).map vi := by
      unfold rgV
      rw [Int.sub_zero, Int.toNat_natCast]
      apply List.map_congr_left
      intro i _
      rw [Int.zero_add]
    rw [e]
def spWidth (K : PySem.W.Frag) : Sp := fun vs H Q _ => ∃ (b g : Addr) (rows : List (List Nat)), vs = [.ref b] ∧ BookAt K g H b rows ∧ rows.length ≤ 20 ∧ ∀ H', Same H H' → Q (.int (widthM rows)) H'
theorem ok_width (T : Tx K mg) (F : Fx K) : DefOk P w K mg base CX0 6 (ga K "width") ["book"] (spWidth K) := by
  have D1 := ok_rows_of (P := P) (w := w) (base := base) T F
  have D2 := ok_all_kinds (P := P) (w := w) (base := base) T F
  have D3 := ok_Rows_many (P := P) (w := w) (base := base) T F
  refine def0 F.f_width bd_width sc_width (fun vs H Q E h => ?_) (fun cdv A outer s0 H vs Q E hr h => ?_)
  · obtain ⟨b, g, rows, rfl, _⟩ := h
    rfl
  · obtain ⟨b, g, rows, rfl, B, hl, k⟩ := h
    refine ⟨_, pss_one (ps_ret (pe_met0 (pe_cal D1 hr (by rfl) T.g_rows_of pass0 (pa_cons (pv 0) (pa_cons (pe_cal (D2.mono (by decide : 2 ≤ 5)) hr (by rfl) T.g_all_kinds pass0 (pa_cons (pv 0) pa_nil)) pa_nil))) T.c_Rows T.m_Rows_many (D3.mono (by decide : 1 ≤ 5)) hr pass0)), ?_⟩
    obtain ⟨s, hs, _⟩ := width_ok rows hl
    refine ⟨_, rfl, _, rfl, b, g, rows, rfl, B, by omega, fun l H1 e1 h1 => ⟨b, l, g, rows, _, s, rfl, B.same e1, h1, hs, fun z dx la ah th H2 e2 R => ?_⟩⟩
    refine ⟨z, dx, _, rfl, R.hz, rfl, z, dx, b, la, ah, th, s, rfl, R, ?_⟩
    have kk := k H2 (e1.trans e2)
    unfold widthM at kk
    rw [hs] at kk
    exact kk
end
end Lk
set_option Elab.async false
set_option linter.all false
set_option maxRecDepth 100000
set_option maxHeartbeats 4000000
namespace Lk
open PySem PySem.Spec PyProof.Rows L2
open He (ga ma)
section
variable {P : Program} {w : World} {K : PySem.W.Frag} {mg : Str → Option Value} {base : Heap}
/-! ### texts -/
def nT (n : Nat) : Str := Str.ofString (toString ((n : Nat) : Int))
def jM (ns : List Nat) (bt : Str) : Str := match ns with
  | [] => "-"
  | n :: r => Txt.join bt ((n :: r).map nT)
theorem nT_len {n : Nat} (h : n < 1000) : (nT n).length ≤ 3 := by
  unfold nT
  rw [TL.len_tl, TL.tl_num]
  exact TL.numL_len (by decide) (by omega)
theorem log_small {n : Nat} (h : n < 100000) : n.log2 < 1920 := by
  rcases Nat.eq_zero_or_pos n with c | c
  · rw [c]
    decide
  · rw [Nat.log2_lt (by omega)]
    exact Nat.lt_of_lt_of_le h (Nat.le_trans (by decide : 100000 ≤ 2 ^ 17) (Nat.pow_le_pow_right (by decide) (by decide)))
theorem sum_le {ys : List Str} {k : Nat} (h : ∀ y ∈ ys, y.length ≤ k) : (ys.map (·.length)).sum ≤ ys.length * k := by
  induction ys with
  | nil => simp
  | cons y r ih =>
    have h1 := h y (by simp)
    have h2 := ih (fun z m => h z (by simp [m]))
    rw [List.map_cons, List.sum_cons, List.length_cons, Nat.succ_mul]
    omega
/-- small enough to be joined -/
theorem join_fit {ys : List Str} {k m : Nat} {bt : Str} (h : ∀ y ∈ ys, y.length ≤ k) (hm : ys.length ≤ m) (hb : bt.length ≤ 10) (hk : m * (k + 10) ≤ 16777216) : (ys.map (·.length)).sum + ys.length * bt.length ≤ 16777216 := by
  have h1 := sum_le h
  have h2 : ys.length * bt.length ≤ ys.length * 10 := Nat.mul_le_mul_left _ hb
  have h3 : ys.length * (k + 10) ≤ m * (k + 10) := Nat.mul_le_mul_right _ hm
  rw [Nat.mul_add] at h3
  omega
theorem map_vi_nil {ns : List Nat} (h : ns ≠ []) : ns.length ≠ 0 := fun c => h (List.length_eq_zero_iff.mp c)
def spJoined : Sp := fun vs H Q _ => ∃ (a : Addr) (ns : List Nat) (bt : Str), vs = [.ref a, .str bt] ∧ TN H a ns ∧ ns.length ≤ 100 ∧ (∀ n ∈ ns, n < 1000) ∧ bt.length ≤ 10 ∧ ∀ H', Same H H' → Q (.str (jM ns bt)) H'
theorem ok_joined (T : Tx K mg) (F : Fx K) : DefOk P w K mg base CX0 1 (ga K "joined") ["numbers", "between"] spJoined := by
  have nd := sc_joined.nd
  refine def0 F.f_joined bd_joined sc_joined (fun vs H Q E h => ?_) (fun cdv A outer s0 H vs Q E hr h => ?_)
  · obtain ⟨a, ns, bt, rfl, _⟩ := h
    rfl
  · obtain ⟨a, ns, bt, rfl, ha, hl, hs, hb, k⟩ := h
    refine ⟨_, pss_cons (ps_if (pt_cmpR op_eq (pe_callB call_len (by rfl) T.b_len (by decide +kernel) (pa_cons (pv 0) pa_nil)) pe_int (nomark _)) (pss_one (ps_ret pe_str)) pss_nil)
      (pss_one (ps_ret (pe_join (pv 1) (pe_lc (own := [("number", 2)]) (g := gName 2) (tt := tYes) rfl nd (pi_tup (pv 0)) (blkOk_by (N := N_joined) (sc := defScope s_joined) (by decide +kernel)) (fun _ _ _ _ _ => pg_name (i := 2) nd rfl (Or.inl rfl)) (fun _ _ _ _ _ => pts_nil)
        (fun _ _ _ _ _ => pe_callTy (T := "str") (r := fun xs H Q => ∃ i : Int, xs = [.int i] ∧ i.natAbs.log2 < 1920 ∧ Q (.str (toString i)) H) call_str_int (by rfl) T.b_str (by decide +kernel) (pa_cons (pv 2) pa_nil)))))), ?_⟩
    refine ⟨_, rfl, _, _, rfl, .inr ⟨_, .of ha, rfl⟩, rfl, _, rfl, ?_⟩
    rw [List.length_map]
    have e0 : decide (V.int ((ns.length : Nat) : Int) = V.int 0) = decide (ns.length = 0) := dec_vi ns.length 0
    rw [e0]
    cases ns with
    | nil =>
      refine iteT (B := True) ?_
      exact k H (Same.refl _)
    | cons n0 r0 =>
      rw [decide_eq_false (by simp)]
      refine iteF (A := True) ?_
      refine ⟨_, rfl, ⟨bt, rfl⟩, _, rfl, a, rfl, ⟨_, .of ha⟩, fun D hD => lc_tup (K := K) (a := a) (xs := (n0 :: r0).map vi) (fun i H' => Same H H' ∧ H' D = some (.lst (((((n0 :: r0).take i).map nT)).map V.str)))
        ⟨Same.new hD, upd_same⟩ (fun i H' _ ⟨e, _⟩ => .of (e _ _ ha)) ?_ ?_⟩
      · rintro i y H' hi ⟨e, q⟩
        obtain ⟨n, hn, rfl⟩ := get_map hi
        have hb2 := hs n (List.mem_of_getElem? hn)
        refine ⟨rfl, ?_⟩
        refine iteT (B := True) ?_
        refine ⟨_, rfl, _, rfl, log_small (by rw [Int.natAbs_natCast]; omega), _, q, ?_, same_upd hD e, ?_⟩
        · rw [List.length_map, List.length_map, List.length_take]
          exact small1000 (by omega)
        · rw [upd_same, take_snoc hn, List.map_append, List.map_append]
          rfl
      · rintro H1 ⟨e, q⟩
        rw [List.length_map, List.take_length] at q
        refine ⟨bt, D, (n0 :: r0).map nT, rfl, rfl, .inl (.of q), join_fit (k := 3) (m := 100) (fun y hy => ?_) (by rw [List.length_map]; exact hl) hb (by decide), k H1 e⟩
        obtain ⟨n, hn, rfl⟩ := List.mem_map.mp hy
        exact nT_len (hs n hn)
theorem ok_law_joined (T : Tx K mg) (F : Fx K) : DefOk P w K mg base CX0 1 (ga K "_law_joined") ["_law_row", "_law_between"] spJoined := by
  have nd := sc_law_joined.nd
  refine def0 F.f_law_joined bd_law_joined sc_law_joined (fun vs H Q E h => ?_) (fun cdv A outer s0 H vs Q E hr h => ?_)
  · obtain ⟨a, ns, bt, rfl, _⟩ := h
    rfl
  · obtain ⟨a, ns, bt, rfl, ha, hl, hs, hb, k⟩ := h
    refine ⟨_, pss_cons (ps_if (pt_cmpR op_eq (pe_callB call_len (by rfl) T.b_len (by decide +kernel) (pa_cons (pv 0) pa_nil)) pe_int (nomark _)) (pss_one (ps_ret pe_str)) pss_nil)
      (pss_one (ps_ret (pe_join (pv 1) (pe_lc (own := [("_law_number", 2)]) (g := gName 2) (tt := tYes) rfl nd (pi_tup (pv 0)) (blkOk_by (N := N_law_joined) (sc := defScope s_law_joined) (by decide +kernel)) (fun _ _ _ _ _ => pg_name (i := 2) nd rfl (Or.inl rfl)) (fun _ _ _ _ _ => pts_nil)
        (fun _ _ _ _ _ => pe_callTy (T := "str") (r := fun xs H Q => ∃ i : Int, xs = [.int i] ∧ i.natAbs.log2 < 1920 ∧ Q (.str (toString i)) H) call_str_int (by rfl) T.b_str (by decide +kernel) (pa_cons (pv 2) pa_nil)))))), ?_⟩
    refine ⟨_, rfl, _, _, rfl, .inr ⟨_, .of ha, rfl⟩, rfl, _, rfl, ?_⟩
    rw [List.length_map]
    have e0 : decide (V.int ((ns.length : Nat) : Int) = V.int 0) = decide (ns.length = 0) := dec_vi ns.length 0
    rw [e0]
    cases ns with
    | nil =>
      refine iteT (B := True) ?_
      exact k H (Same.refl _)
    | cons n0 r0 =>
      rw [decide_eq_false (by simp)]
      refine iteF (A := True) ?_
      refine ⟨_, rfl, ⟨bt, rfl⟩, _, rfl, a, rfl, ⟨_, .of ha⟩, fun D hD => lc_tup (K := K) (a := a) (xs := (n0 :: r0).map vi) (fun i H' => Same H H' ∧ H' D = some (.lst (((((n0 :: r0).take i).map nT)).map V.str)))
        ⟨Same.new hD, upd_same⟩ (fun i H' _ ⟨e, _⟩ => .of (e _ _ ha)) ?_ ?_⟩
      · rintro i y H' hi ⟨e, q⟩
        obtain ⟨n, hn, rfl⟩ := get_map hi
        have hb2 := hs n (List.mem_of_getElem? hn)
        refine ⟨rfl, ?_⟩
        refine iteT (B := True) ?_
        refine ⟨_, rfl, _, rfl, log_small (by rw [Int.natAbs_natCast]; omega), _, q, ?_, same_upd hD e, ?_⟩
        · rw [List.length_map, List.length_map, List.length_take]
          exact small1000 (by omega)
        · rw [upd_same, take_snoc hn, List.map_append, List.map_append]
          rfl
      · rintro H1 ⟨e, q⟩
        rw [List.length_map, List.take_length] at q
        refine ⟨bt, D, (n0 :: r0).map nT, rfl, rfl, .inl (.of q), join_fit (k := 3) (m := 100) (fun y hy => ?_) (by rw [List.length_map]; exact hl) hb (by decide), k H1 e⟩
        obtain ⟨n, hn, rfl⟩ := List.mem_map.mp hy
        exact nT_len (hs n hn)
/-- lengths of joined texts -/
theorem join_len (bt : Str) : ∀ (ys : List Str) (k : Nat), (∀ y ∈ ys, y.length ≤ k) → bt.length ≤ 10 → (Txt.join bt ys).length ≤ ys.length * (k + 10)
  | ys, k, h, hb => by
    rw [TL.len_tl, TL.join_eq, TL.tl_join]
    have key : ∀ l : List (List Nat), (∀ y ∈ l, y.length ≤ k) → (TL.joinL (TL.tl bt) l).length ≤ l.length * (k + 10) := by
      intro l
      induction l with
      | nil => intro _; exact Nat.zero_le _
      | cons p r ih =>
        intro hl
        have h1 := hl p (by simp)
        have h2 := ih (fun z m => hl z (by simp [m]))
        have h3 : (TL.tl bt).length ≤ 10 := by rw [← TL.len_tl]; exact hb
        cases r with
        | nil =>
          show p.length ≤ 1 * (k + 10)
          omega
        | cons q r =>
          show (p ++ (TL.tl bt ++ TL.joinL (TL.tl bt) (q :: r))).length ≤ _
          rw [List.length_append, List.length_append, List.length_cons, Nat.succ_mul]
          omega
    have := key (ys.map TL.tl) (fun y hy => by
      obtain ⟨z, hz, rfl⟩ := List.mem_map.mp hy
      rw [← TL.len_tl]
      exact h z hz)
    rw [List.length_map] at this
    exact this
theorem jM_len {ns : List Nat} {bt : Str} (hs : ∀ n ∈ ns, n < 1000) (hb : bt.length ≤ 10) : (jM ns bt).length ≤ ns.length * 13 + 1 := by
  cases ns with
  | nil =>
    show ("-" : Str).length ≤ 1
    decide +kernel
  | cons n r =>
    have := join_len bt ((n :: r).map nT) 3 (fun y hy => by
      obtain ⟨z, hz, rfl⟩ := List.mem_map.mp hy
      exact nT_len (hs z hz)) hb
    rw [List.length_map] at this
    show (Txt.join bt ((n :: r).map nT)).length ≤ _
    omega
end
end Lk
set_option Elab.async false
set_option linter.all false
set_option maxRecDepth 100000
set_option maxHeartbeats 4000000
namespace Lk
open PySem PySem.Spec PyProof.Rows L2
open He (ga ma)
section
variable {P : Program} {w : World} {K : PySem.W.Frag} {mg : Str → Option Value} {base : Heap}
def spLNone (K : PySem.W.Frag) : Sp := fun vs H Q _ => ∃ (l : Addr) (ys : List Str), vs = [.ref l] ∧ SqL K H l (ys.map V.str) ∧ ys.length ≤ 100 ∧ (∀ y ∈ ys, y.length ≤ 10000) ∧ Q (.str (match ys with | [] => ("none" : Str) | y :: r => Txt.join " " (y :: r))) H
theorem ok_law_none (T : Tx K mg) (F : Fx K) : DefOk P w K mg base CX0 1 (ga K "_law_none") ["_law_words"] (spLNone K) := by
  refine def0 F.f_law_none bd_law_none sc_law_none (fun vs H Q E h => ?_) (fun cdv A outer s0 H vs Q E hr h => ?_)
  · obtain ⟨l, ys, rfl, _⟩ := h
    rfl
  · obtain ⟨l, ys, rfl, hl, hz, hy, k⟩ := h
    refine ⟨_, pss_cons (ps_if (pt_cmpR op_eq (pe_callB call_len (by rfl) T.b_len (by decide +kernel) (pa_cons (pv 0) pa_nil)) pe_int (nomark _)) (pss_one (ps_ret pe_str)) pss_nil)
      (pss_one (ps_ret (pe_join pe_str (pv 0)))), ?_⟩
    refine ⟨_, rfl, _, _, rfl, .inl ⟨_, hl, rfl⟩, rfl, _, rfl, ?_⟩
    rw [List.length_map]
    have e0 : decide (V.int ((ys.length : Nat) : Int) = V.int 0) = decide (ys.length = 0) := dec_vi ys.length 0
    rw [e0]
    cases ys with
    | nil =>
      refine iteT (B := True) ?_
      exact k
    | cons y r =>
      rw [decide_eq_false (by simp)]
      refine iteF (A := True) ?_
      exact ⟨⟨_, rfl⟩, _, rfl, _, l, y :: r, rfl, rfl, .inl hl, join_fit (k := 10000) (m := 100) hy hz (by decide +kernel) (by decide), k⟩
/-! ### triples in bounds -/
def TrOk (t : Trip) : Prop := t.1 < 1000 ∧ t.2.1 < 1000 ∧ t.2.2.length ≤ 100 ∧ ∀ n ∈ t.2.2, n < 1000
theorem trip_ok (rows : List (List Nat)) (h : rows.length ≤ 50) : ∀ t ∈ (runM rows).trip, TrOk t := by
  induction rows using snocInd with
  | h0 => intro t m; simp [runM, m0] at m
  | h1 rows r ih =>
    rw [List.length_append] at h
    have h' : rows.length + 1 ≤ 50 := h
    have ih := ih (by omega)
    have RO := run_ok rows
    rw [runM_snoc]
    unfold nextM
    simp only []
    intro t m
    rcases List.mem_append.mp m with m | m
    · exact ih t m
    · rw [List.mem_singleton.mp m]
      obtain ⟨p1, p2⟩ := putM_ok (bits := (runM rows).bits ++ [bitNew (runM rows).bits r]) (x := (runM rows).trip.length) RO
      generalize putM ((runM rows).bits ++ [bitNew (runM rows).bits r]) (runM rows).lots (runM rows).held (runM rows).trip.length = q at p1 p2 ⊢
      have sh := p1.sh
      refine ⟨by show q.2.2 < 1000; omega, ?_, ?_, ?_⟩
      · show (q.2.1.getD q.2.2 []).length < 1000
        have := p1.hz _ (getD_mem p2)
        omega
      · show (entM _ q.2.1 _).length ≤ 100
        unfold entM
        rw [List.length_map]
        omega
      · intro n hn
        obtain ⟨row, mr, rfl⟩ := List.mem_map.mp hn
        have := p1.hz row mr
        exact Nat.lt_of_le_of_lt (List.length_filter_le _ _) (by omega)
def givM (t : Trip) : Str := nT t.1 ++ " " ++ nT t.2.1 ++ ": " ++ jM t.2.2 ","
theorem len_app (x y : Str) : (x ++ y).length = x.length + y.length := by
  rw [TL.len_tl, TL.len_tl, TL.len_tl, TL.tl_append, List.length_append]
theorem givM_len {t : Trip} (h : TrOk t) : (givM t).length ≤ 1400 := by
  have h1 := nT_len h.1
  have h2 := nT_len h.2.1
  have h3 := jM_len (bt := ",") h.2.2.2 (by decide +kernel)
  have h4 := h.2.2.1
  unfold givM
  rw [len_app, len_app, len_app, len_app]
  have e1 : (" " : Str).length = 1 := by decide +kernel
  have e2 : (": " : Str).length = 2 := by decide +kernel
  omega
theorem szl (n : Nat) (h : n ≤ 100000) : n ≤ sizeLine := Nat.le_trans h (by decide)
def spGivLine : Sp := fun vs H Q _ => ∃ (a : Addr) (t : Trip), vs = [.ref a] ∧ TR H a t ∧ TrOk t ∧ ∀ H', Same H H' → Q (.str (givM t)) H'
theorem ok_given_line (T : Tx K mg) (F : Fx K) : DefOk P w K mg base CX0 2 (ga K "given_line") ["triple"] spGivLine := by
  have D1 := ok_joined (P := P) (w := w) (base := base) T F
  have nd := sc_given_line.nd
  refine def0 F.f_given_line bd_given_line sc_given_line (fun vs H Q E h => ?_) (fun cdv A outer s0 H vs Q E hr h => ?_)
  · obtain ⟨a, t, rfl, _⟩ := h
    rfl
  · obtain ⟨a, t, rfl, ⟨e, h1, h2⟩, ok, k⟩ := h
    refine ⟨_, pss_cons (ps_asg (pv 0) (pg_tup (n := 3) rfl (pgs_cons (pg_name (i := 1) nd rfl (Or.inl rfl)) (pgs_cons (pg_name (i := 2) nd rfl (Or.inl rfl)) (pgs_cons (pg_name (i := 3) nd rfl (Or.inl rfl)) pgs_nil)))))
      (pss_one (ps_ret (pe_op op_add_str (pe_op op_add_str (pe_op op_add_str (pe_op op_add_str (pe_callTy call_str_int (by rfl) T.b_str (by decide +kernel) (pa_cons (pv 1) pa_nil)) pe_str)
        (pe_callTy call_str_int (by rfl) T.b_str (by decide +kernel) (pa_cons (pv 2) pa_nil))) pe_str) (pe_cal D1 hr (by rfl) T.g_joined pass0 (pa_cons (pv 3) (pa_cons pe_str pa_nil)))))), ?_⟩
    refine ⟨_, rfl, a, _, rfl, .of h1, rfl, _, _, rfl, _, _, rfl, _, _, rfl, rfl, ?_⟩
    have n1 := nT_len ok.1
    have n2 := nT_len ok.2.1
    have n3 := jM_len (bt := ",") ok.2.2.2 (by decide +kernel)
    have n4 := ok.2.2.1
    have e1 : (" " : Str).length = 1 := by decide +kernel
    have e2 : (": " : Str).length = 2 := by decide +kernel
    refine ⟨_, rfl, _, rfl, log_small (by rw [Int.natAbs_natCast]; have := ok.1; omega), nT t.1, _, rfl, rfl, szl _ (by omega), ?_⟩
    refine ⟨_, rfl, _, rfl, log_small (by rw [Int.natAbs_natCast]; have := ok.2.1; omega), _, nT t.2.1, rfl, rfl, szl _ (by rw [len_app]; omega), _, _, rfl, rfl, szl _ (by rw [len_app, len_app]; omega), ?_⟩
    refine ⟨_, rfl, e, t.2.2, ",", rfl, h2, ok.2.2.1, ok.2.2.2, by decide +kernel, fun H1 e1' => ⟨_, _, rfl, rfl, szl _ (by rw [len_app, len_app, len_app]; omega), k H1 e1'⟩⟩
/-! ### the book's text -/
def rowsT (rows : List (List Nat)) (e : Str) : Str := Txt.join "" (rows.map fun r => jM r " " ++ e)
/-- rows as the desk has them -/
structure RwOk (rows : List (List Nat)) : Prop where
  len : rows.length ≤ 10
  few : ∀ r ∈ rows, r.length ≤ 6
  sm : ∀ r ∈ rows, ∀ n ∈ r, n < 10
theorem jM_rw {rows : List (List Nat)} (h : RwOk rows) {r : List Nat} (m : r ∈ rows) : (jM r " ").length ≤ 79 := by
  have h1 := jM_len (ns := r) (bt := " ") (fun n hn => by have := h.sm r m n hn; omega) (by decide +kernel)
  have h2 := h.few r m
  omega
def spBookText (K : PySem.W.Frag) : Sp := fun vs H Q _ => ∃ (b g : Addr) (rows : List (List Nat)), vs = [.ref b] ∧ BookAt K g H b rows ∧ RwOk rows ∧ ∀ H', Same H H' → Q (.str (rowsT rows "\n")) H'
theorem ok_book_text (T : Tx K mg) (F : Fx K) : DefOk P w K mg base CX0 2 (ga K "book_text") ["book"] (spBookText K) := by
  have D1 := ok_joined (P := P) (w := w) (base := base) T F
  have nd := sc_book_text.nd
  refine def0 F.f_book_text bd_book_text sc_book_text (fun vs H Q E h => ?_) (fun cdv A outer s0 H vs Q E hr h => ?_)
  · obtain ⟨b, g, rows, rfl, _⟩ := h
    rfl
  · obtain ⟨b, g, rows, rfl, ⟨dx, p, q, h1, ⟨as, h2, h2'⟩, h3, h4⟩, ok, k⟩ := h
    refine ⟨_, pss_one (ps_ret (pe_join pe_str (pe_lc (own := [("parents", 1)]) (g := gName 1) (tt := tYes) (te := tOp (fun x y H Q => ∃ i j, x = .str i ∧ y = .str j ∧ i.length + j.length ≤ sizeLine ∧ Q (.str (i ++ j)) H) (cCall spJoined E0 (tCons (tVar 1) (tCons (tC (.str " ")) tNil))) (tC (.str "\n"))) rfl nd (pi_tup (pe_fld (pv 0) (by rfl))) (blkOk_by (N := N_book_text) (sc := defScope s_book_text) (by decide +kernel))
      (fun _ _ _ _ _ => pg_name (i := 1) nd rfl (Or.inl rfl)) (fun _ _ _ _ _ => pts_nil) (fun _ _ _ _ _ => pe_op op_add_str (pe_cal D1 hr (by rfl) T.g_joined pass0 (pa_cons (pv 1) (pa_cons pe_str pa_nil))) pe_str)))), ?_⟩
    refine ⟨⟨_, rfl⟩, _, rfl, b, _, dx, _, _, rfl, h1, T.c_Book, T.n_Book_parents, fBook_parents p q, p, rfl, ⟨_, .of h2⟩, fun D hD => lc_tup (K := K) (a := p) (xs := as.map V.ref) (fun i H' => Same H H' ∧ H' D = some (.lst (((rows.take i).map fun r => jM r " " ++ ("\n" : Str)).map V.str)))
        ⟨Same.new hD, upd_same⟩ (fun i H' _ ⟨e, _⟩ => .of (e _ _ h2)) ?_ ?_⟩
    · rintro i y H' hi ⟨e, qq⟩
      obtain ⟨c, hc, rfl⟩ := get_map hi
      obtain ⟨row, hrow, rr⟩ := h2'.get' hc
      have m := List.mem_of_getElem? hrow
      refine ⟨rfl, ?_⟩
      refine iteT (B := True) ?_
      refine ⟨_, rfl, c, row, " ", rfl, rr.same e, Nat.le_trans (ok.few row m) (by decide), fun n hn => Nat.lt_trans (ok.sm row m n hn) (by decide), by decide +kernel, fun H2 e2 => ⟨_, _, rfl, rfl, ?_, _, e2 _ _ qq, ?_, same_upd hD (e.trans e2), ?_⟩⟩
      · have := jM_rw ok m
        have e1 : ("\n" : Str).length = 1 := by decide +kernel
        exact szl _ (by omega)
      · rw [List.length_map, List.length_map, List.length_take]
        have := ok.len
        exact small1000 (by omega)
      · rw [upd_same, take_snoc hrow, List.map_append, List.map_append]
        rfl
    · rintro H1 ⟨e, qq⟩
      rw [List.length_map, h2'.1, List.take_length] at qq
      refine ⟨_, D, _, rfl, rfl, .inl (.of qq), join_fit (k := 80) (m := 10) (fun y hy => ?_) (by rw [List.length_map]; exact ok.len) (by decide +kernel) (by decide), k H1 e⟩
      obtain ⟨r, hr1, rfl⟩ := List.mem_map.mp hy
      have := jM_rw ok hr1
      have e1 : ("\n" : Str).length = 1 := by decide +kernel
      rw [len_app]
      omega
end
end Lk
set_option Elab.async false
set_option linter.all false
set_option maxRecDepth 100000
set_option maxHeartbeats 4000000
namespace L2
open PySem PySem.Spec PyProof.Rows PpSet
/-! ### {e for x in xs}, e an int -/
/-- one more member -/
abbrev more (S : Int → Bool) (c : Int) : Int → Bool := fun j => S j || decide (j = c)
abbrev moreN (S : Int → Bool) (n : Nat) (c : Int) : Nat := if S c = true then n else n + 1
section
variable {X : Cx} {pins : List (Addr × Obj)} {σ : L2.St} {H : Hp} {s : Shared}
theorem setI_at (I : Inv X pins σ H s) {a : Addr} {S : Int → Bool} {n : Nat} (h : H a = some (.set S n)) : s.heap.SetOf (intKind X.prog X.w) a S n := I.hok a _ h
theorem setI_add {E : Value → Shared → Prop} {D : Addr} {S : Int → Bool} {n : Nat} {c : Int} {t : Tok} {Q : Value → Shared → Prop} (I : Inv X pins σ H s) (hD : H D = some (.set S n)) (room : n + 1 < scanBound)
    (h : ∀ s', Inv X pins σ (upd H D (.set (more S c) (moreN S n c))) s' → Q .none s') : wpAny (model X.prog X.w) X.A (call (.builtin "set.add") [.ref D, .int c t]) Q E s := by
  refine call_set_add (knd := intKind X.prog X.w) (k := c) (by show (c == c) = true; simp) rfl (setI_at I hD) room fun h' sb new => h _ ?_
  have q := new
  obtain ⟨o, _, _, _, ho, _⟩ := q
  exact I.write (e := D) (t' := s.toks + 1) (by rw [hD]; trivial) (.inl rfl) (fun b u hb hu => (sb.2 b hb).trans hu) ⟨o, ho⟩ new
theorem setI_len {E : Value → Shared → Prop} {D : Addr} {S : Int → Bool} {n : Nat} {Q : Value → Shared → Prop} (I : Inv X pins σ H s) (hD : H D = some (.set S n)) (hn : n < 1000)
    (h : ∀ t s', Inv X pins σ H s' → Q (.int (n : Nat) t) s') : wpAny (model X.prog X.w) X.A (call (.builtin "len") [.ref D]) Q E s := by
  obtain ⟨o, es, ep, t, ho, hex, hd, _, _, _, hf, hz⟩ := setI_at I hD
  refine call_len_set ho hex hd hf (by rw [hz]; omega) ?_
  rw [hz]
  exact h _ _ (I.tok _)
end
section
variable {X : Cx}
theorem call_lenI : CallR X (.builtin "len") (fun xs H Q => ∃ a S n, xs = [V.ref a] ∧ H a = some (.set S n) ∧ n < 1000 ∧ Q (.int (n : Nat)) H) := by
  intro pins s σ H xs us Q I r h
  obtain ⟨a, S, n, rfl, ha, hn, q⟩ := h
  obtain ⟨u, rfl, ru⟩ := vals1 r
  cases ru
  exact setI_len I ha hn fun t s' I' => ⟨.int (n : Nat), H, I', ⟨t, rfl⟩, q⟩
/-- D: the new set; W by the turn and a measure, Nx what a turn is to reach -/
def tSci (wi : TI) (g : TG) (tt : TT) (te : TE) (vs : List Nat) : TE := fun σ H Q => wi σ H fun J H1 => ∀ D, H1 D = none → ∃ W : Nat → Nat → Hp → Prop, (∃ m, W 0 m (upd H1 D (.set (fun _ => false) 0))) ∧ ∀ i m H, W i m H →
  (J.stop i H ∧ Q (.ref D) H) ∨ (J.go i H ∧ ∃ Nx : Hp → Prop, (∀ H', Nx H' → ∃ m', m' < m ∧ W (i + 1) m' H') ∧ ∀ x H', J.yld i H x H' → g x (wipe σ vs) H' fun σ2 H2 => wipe σ2 vs = wipe σ vs ∧ tt σ2 H2 fun b H3 =>
    if b = true then te σ2 H3 fun y H4 => ∃ (c : Int) (S : Int → Bool) (n : Nat), y = .int c ∧ H4 D = some (.set S n) ∧ n + 1 < scanBound ∧ Nx (upd H4 D (.set (more S c) (moreN S n c))) else Nx H3)
theorem pe_sci {elt tg iter : Expr} {ifs : List Expr} {scope : Scope} {own : List (PySem.Str × Nat)} {pos : Pos} {wi : TI} {g : TG} {tt : TT} {te : TE} (hc : X.calm = true) (hN : X.N.Nodup) (hi : PI X tg iter wi) (ok : BlkOk X.N X.env.scope scope own)
    (hg : ∀ (s : Shared) (H : Hp) (C : Addr) (cl : List (PySem.Str × Addr)) (fp : List Addr), PG (X.blk s H scope (compEnvC scope cl C X.env) fp) tg g) (ht : ∀ (s : Shared) (H : Hp) (C : Addr) (cl : List (PySem.Str × Addr)) (fp : List Addr), PTs (X.blk s H scope (compEnvC scope cl C X.env) fp) ifs tt)
    (he : ∀ (s : Shared) (H : Hp) (C : Addr) (cl : List (PySem.Str × Addr)) (fp : List Addr), PE (X.blk s H scope (compEnvC scope cl C X.env) fp) elt te) (hs : ∀ x, foldedSetIterable iter X.env x = pure x := by intro _; rfl) :
    PE X (.SetComp elt [⟨tg, iter, ifs, 0⟩] scope pos) (tSci wi g tt te (own.map (·.2))) := by
  refine ⟨fun pins s σ H Q I h => ?_⟩
  rw [eval_SetComp]
  have clo := closure_ok (scope := scope) (env := X.env) fun y hy e => (ok.free y hy e).elim (fun k => I.ok.has _ (.inl k)) fun k => I.ok.has _ (.inr k)
  refine wpAny_comprehension_free (use := none) rfl hs clo ok.kind (fun y hy e => (ok.uniq y hy).trans (by rw [e])) (thn (hi.run pins s σ H _ I h) fun xv s1 hx => thn hx fun itv s2 hit => ?_)
  obtain ⟨it, fp, tn, J, H2, rfl, I2, T, t2, f2, q⟩ := hit
  refine newSet_ok (newEnv_comp ?_)
  have fresh : H2 s2.heap.objs.size = none := I2.hok.fresh (Nat.le_refl _)
  obtain ⟨W, ⟨m0, w0⟩, turn⟩ := q _ fresh
  have I3 : Inv X pins σ (upd H2 s2.heap.objs.size (.set (fun _ => false) 0)) { s2 with heap := s2.heap.push { cls := .type "set", dict := none, data := .set #[] 0 (.fresh 0 0 (!X.w.params.followText "set-order")) } } :=
    I2.laid (t' := s2.toks) (fun b o e => Heap.get?_push_of_some _ e) (Nat.le_refl _) ⟨_, #[], 0, _, Heap.get?_push_size _ rfl, ⟨rfl, rfl, rfl⟩, rfl, fun e z => by simp at z, fun k => by simp, by decide, by rfl, rfl⟩
  have lt2 : ∀ b ∈ fp, b < s2.heap.objs.size := fun b hb => let ⟨o, e, _⟩ := T.obj _ _ t2 b hb; Heap.lt_size e
  have f3 : ∀ b ∈ fp, FpOk X pins (upd H2 s2.heap.objs.size (.set (fun _ => false) 0)) b := fun b hb => ⟨by rw [upd_ne (Nat.ne_of_lt (lt2 b hb))]; exact (f2 b hb).1, (f2 b hb).2⟩
  have t3 : tn 0 (s2.heap.push { cls := .type "set", dict := none, data := .set #[] 0 (.fresh 0 0 (!X.w.params.followText "set-order")) }) := T.keep _ _ _ t2 fun b _ o e => Heap.get?_push_of_some _ e
  have lt3 : ∀ b ∈ fp, b < (s2.heap.push { cls := .type "set", dict := none, data := .set #[] 0 (.fresh 0 0 (!X.w.params.followText "set-order")) }).objs.size := fun b hb => by
    rw [Heap.size_push]
    exact Nat.lt_succ_of_lt (lt2 b hb)
  generalize hD : s2.heap.objs.size = D at *
  generalize hG : s2.heap.push { cls := .type "set", dict := none, data := .set #[] 0 (.fresh 0 0 (!X.w.params.followText "set-order")) } = G at *
  generalize hH3 : upd H2 D (.set (fun _ => false) 0) = H3 at *
  have blk := block_start (s := { s2 with heap := G }) I3 ok hN fun b hb => ⟨f3 b hb, lt3 b hb⟩
  have rg := hg { s2 with heap := G } H3 G.objs.size (cellsFrom (G.objs.size + 1) scope.names (cloFrom X.env.cells scope.names [])) fp
  have rt := ht { s2 with heap := G } H3 G.objs.size (cellsFrom (G.objs.size + 1) scope.names (cloFrom X.env.cells scope.names [])) fp
  have re := he { s2 with heap := G } H3 G.objs.size (cellsFrom (G.objs.size + 1) scope.names (cloFrom X.env.cells scope.names [])) fp
  have cl : (compEnvC scope (cellsFrom (G.objs.size + 1) scope.names (cloFrom X.env.cells scope.names [])) G.objs.size X.env).locals = G.objs.size := rfl
  have t4 : tn 0 (pushCells (G.push { cls := .type "dict", data := .dict #[] }) scope.names) := T.keep _ _ _ t3 fun b _ o e => pushCells_keeps _ _ _ _ (Heap.get?_push_of_some _ e)
  show codeAny _ _ (.compStart (.SetComp elt [⟨tg, iter, ifs, 0⟩] scope pos) 0 (.ref it) (.ref D) (compEnvC scope (cellsFrom (G.objs.size + 1) scope.names (cloFrom X.env.cells scope.names [])) G.objs.size X.env)) (compPost (model X.prog X.w) X.A X.xe none (EP X pins σ Q) (.ref D) G.objs.size) { s2 with heap := pushCells (G.push { cls := .type "dict", data := .dict #[] }) scope.names }
  generalize compEnvC scope (cellsFrom (G.objs.size + 1) scope.names (cloFrom X.env.cells scope.names [])) G.objs.size X.env = ce at *
  have stand : ∀ {σ' : L2.St} {H' : Hp} {s' : Shared}, Inv (X.blk { s2 with heap := G } H3 scope ce fp) [] σ' H' s' → (∀ b ∈ fp, H' b = none) → ∀ b ∈ fp, FpOk (X.blk { s2 with heap := G } H3 scope ce fp) [] H' b := fun I' hn b hb =>
    ⟨hn b hb, (I'.ok.exf b hb).1, I'.ok.exfs b hb, .inl hb, fun x c e => (I'.ok.exf b hb).2 x c e, fun p hp => absurd (show p ∈ ([] : List (Addr × Obj)) ++ [] from hp) (by simp)⟩
  have loop : codeAny (model X.prog X.w) X.A (.compLoop (.SetComp elt [⟨tg, iter, ifs, 0⟩] scope pos) 0 (.ref it) (.ref D) ce) (compPost (model X.prog X.w) X.A X.xe none (EP X pins σ Q) (.ref D) G.objs.size) { s2 with heap := pushCells (G.push { cls := .type "dict", data := .dict #[] }) scope.names } := by
    refine compLoopS_any (fun n s' => ∃ i H', W i n H' ∧ (∀ b ∈ fp, H' b = none) ∧ tn i s'.heap ∧ Inv (X.blk { s2 with heap := G } H3 scope ce fp) [] (wipe σ (own.map (·.2))) H' s') ?_ m0 ⟨0, H3, w0, fun b hb => (f3 b hb).1, t4, blk⟩
    rintro n s5 ⟨i, H5, w5, n5, t5, I5⟩
    rcases turn i n H5 w5 with ⟨stop, qq⟩ | ⟨go, Nx, hNx, step⟩
    · refine thnF (T.done (X.blk { s2 with heap := G } H3 scope ce fp) rfl rfl rfl hc i [] s5 _ H5 (fun _ _ => False) I5 (stand I5 n5) t5 stop) fun r s6 ⟨hr, I6⟩ => ?_
      subst hr
      have back : Inv X pins σ H5 s6 := I3.call' (ch := fp) I6.os I6.base I6.hok I6.bare fun b hb => ⟨(f3 b hb).2.2.2.1, (f3 b hb).2.1, (f3 b hb).2.2.2.2.1, (f3 b hb).2.2.2.2.2⟩
      have nC : H5 G.objs.size = none := by
        have z : H5 ce.locals = none := I6.free
        rwa [cl] at z
      obtain ⟨m, hn, _⟩ := I6.loc
      have hn : s6.heap.Ns ce.locals m := hn
      rw [cl] at hn
      obtain ⟨g0, g1, g2, g3, g4, g5⟩ := I3.fpOk (Nat.le_refl _) nC
      exact ⟨m, hn, fun h'' sb => ⟨.ref D, H5, back.turned (t' := s6.toks) (fun b o hb e => (sb.2 b hb).trans e) g0 g1 g3 g4 g5, rfl, qq⟩⟩
    · refine thnF (T.item (X.blk { s2 with heap := G } H3 scope ce fp) rfl rfl rfl hc i [] s5 _ H5 (fun _ _ => False) I5 (stand I5 n5) t5 go) fun r s6 ⟨u, hr, h6⟩ => ?_
      subst hr
      refine thnF h6 fun _ s7 ⟨x, H7, I7, r7, y7, t7, n7⟩ => ?_
      refine thnF (rg.run _ s7 _ H7 x u _ (I7.pinned (stand I7 n7) (T.obj _ _ t7)) r7 (step x H7 y7)) fun _ s8 ⟨σ8, H8, I8, hw8, q8⟩ => ?_
      refine thnF (rt.run _ s8 σ8 H8 _ I8 q8) fun b s9 ⟨H9, I9, q9⟩ => ?_
      have close : ∀ {s' : Shared} {H' : Hp}, Inv (X.blk { s2 with heap := G } H3 scope ce fp) ([] ++ pinsAt fp s7.heap) σ8 H' s' → Nx H' → ∃ m, m < n ∧ ∃ i H', W i m H' ∧ (∀ b ∈ fp, H' b = none) ∧ tn i s'.heap ∧ Inv (X.blk { s2 with heap := G } H3 scope ce fp) [] (wipe σ (own.map (·.2))) H' s' := fun {s' H'} I' nx => by
        obtain ⟨m', hm, w'⟩ := hNx H' nx
        have pin' : ∀ b ∈ fp, ∀ o, s7.heap.get? b = some o → s'.heap.get? b = some o ∧ H' b = none := fun b hb o e =>
          let z := I'.pin (b, o) (List.mem_append_right _ (List.mem_append_right _ (mem_pinsAt hb e)))
          ⟨z.1, z.2.1⟩
        refine ⟨m', hm, i + 1, H', w', fun b hb => ?_, T.keep _ _ _ t7 fun b hb o e => (pin' b hb o e).1, (I'.unpinned (pins := [])).weak (by rw [← hw8, wipe_length]) fun j v e => ?_⟩
        · obtain ⟨o, e, _⟩ := T.obj _ _ t7 b hb
          exact (pin' b hb o e).2
        · rw [← hw8] at e
          exact (wipe_some e).1
      cases b with
      | false =>
        have q9 : Nx H9 := by simpa using q9
        simp only [Bool.false_eq_true, if_false]
        exact close I9 q9
      | true =>
        rw [if_pos rfl] at q9
        rw [if_pos rfl]
        refine thnF (re.run _ s9 σ8 H9 _ I9 q9) fun z s10 ⟨yv, H10, I10, r10, c, S0, n0, ey, hD10, hz10, nx⟩ => ?_
        subst ey
        obtain ⟨tk, rfl⟩ := r10
        exact setI_add (X := X.blk { s2 with heap := G } H3 scope ce fp) I10 hD10 hz10 fun s11 I11 => close I11 nx
  exact PpSet.codeAny_compStart_set loop (T.self X.A 0 _ _ _ t4 loop)
/-- over a range -/
theorem sci_range {lo : Int} {n : Nat} {g : TG} {tt : TT} {te : TE} {vs : List Nat} {σ : L2.St} {H1 : Hp} {D : Addr} {Qd : Hp → Prop} (Pv : Nat → Hp → Prop) (h0 : Pv 0 (upd H1 D (.set (fun _ => false) 0)))
    (hs : ∀ i H, i < n → Pv i H → g (.int (lo + i)) (wipe σ vs) H fun σ2 H2 => wipe σ2 vs = wipe σ vs ∧ tt σ2 H2 fun b H3 =>
      if b = true then te σ2 H3 fun y H4 => ∃ (c : Int) (S : Int → Bool) (n : Nat), y = .int c ∧ H4 D = some (.set S n) ∧ n + 1 < scanBound ∧ Pv (i + 1) (upd H4 D (.set (more S c) (moreN S n c))) else Pv (i + 1) H3) (hd : ∀ H, Pv n H → Qd H) :
    ∃ W : Nat → Nat → Hp → Prop, (∃ m, W 0 m (upd H1 D (.set (fun _ => false) 0))) ∧ ∀ i m H, W i m H →
      ((Itr lo n).stop i H ∧ Qd H) ∨ ((Itr lo n).go i H ∧ ∃ Nx : Hp → Prop, (∀ H', Nx H' → ∃ m', m' < m ∧ W (i + 1) m' H') ∧ ∀ x H', (Itr lo n).yld i H x H' → g x (wipe σ vs) H' fun σ2 H2 => wipe σ2 vs = wipe σ vs ∧ tt σ2 H2 fun b H3 =>
        if b = true then te σ2 H3 fun y H4 => ∃ (c : Int) (S : Int → Bool) (n : Nat), y = .int c ∧ H4 D = some (.set S n) ∧ n + 1 < scanBound ∧ Nx (upd H4 D (.set (more S c) (moreN S n c))) else Nx H3) := by
  refine ⟨fun i m H => m = n - i ∧ i ≤ n ∧ Pv i H, ⟨n, rfl, Nat.zero_le _, h0⟩, ?_⟩
  rintro i m H ⟨rfl, hi, p⟩
  by_cases hlt : i < n
  · refine .inr ⟨hlt, Pv (i + 1), fun H' p' => ⟨n - (i + 1), by omega, rfl, hlt, p'⟩, fun x H' ⟨e, y⟩ => ?_⟩
    subst e y
    exact hs i _ hlt p
  · obtain rfl : i = n := by omega
    exact .inl ⟨Nat.le_refl _, hd H p⟩
/-! ### len(set(list of ints)) -/
def tLenS (K : PySem.W.Frag) (ta : TE) : TE := fun σ H Q => ta σ H fun x H1 => ∃ (l : Addr) (ns : List Int), x = .ref l ∧ SqL K H1 l (ns.map V.int) ∧ ns.length ≤ 4000 ∧ Q (.int ((firstMet (fun i => ns.getD i 0) ns.length).length : Nat)) H1
theorem pe_lenS {a : Expr} {ta : TE} {p p2 q pos : Pos} (hg : Gl X "len") (hm : X.mg "len" = none) (hg2 : Gl X "set") (hm2 : X.mg "set" = none) (ha : PE X a ta) (hc : X.calm = true := by rfl)
    (na : starEach [a] X.env = (false, eval a X.env) :: starEach [] X.env := by rfl) : PE X (.Call (.Name "len" p) [.Call (.Name "set" p2) [a] [] q] [] pos) (tLenS X.K ta) := by
  refine ⟨fun pins s σ H Q I h => Call_ (ld_blt I hg hm boot_len (callWith_builtin1 (args_cons (Call_ (ld_blt I hg2 hm2 boot_set (callWith_type1 (args_cons (thn (ha.run pins s σ H _ I h) fun v s1 ⟨x, H1, I1, r1, q1⟩ => args_nil ?_) na) na rfl))) rfl) rfl rfl))⟩
  obtain ⟨l, ns, rfl, hq, hl, q1⟩ := q1
  cases r1
  obtain ⟨its, r, pl, hz⟩ := I1.list hq
  have hlen : its.toArray.size = ns.length := by rw [List.size_toArray, ← r.length, List.length_map]
  refine call_set_list (I1.ok.hd hc) pl.isList (by simpa using RZ.intsAre_vals r) (by rw [hlen]; unfold scanBound; omega) fun h' tk hS hk => args_nil ?_
  rw [hlen] at hS
  have few := firstMet_length_le (fun i => ns.getD i 0) ns.length
  obtain ⟨o, es, ep, t, ho, hex, hd, _, _, _, hf, hn⟩ := hS
  have I2 : Inv X pins σ H1 { s1 with heap := h', toks := tk } := I1.kept fun b o e => hk b o (Heap.lt_size e) e
  exact call_len_set ho hex hd hf (by rw [hn]; omega) ⟨.int ((firstMet (fun i => ns.getD i 0) ns.length).length : Nat), H1, I2.tok _, ⟨_, by rw [hn]⟩, q1⟩
/-! ### a text times 0 or 1 -/
theorem op_mulS : OpR X (binaryOp .Mult) (fun x y H Q => ∃ (z : PySem.Str) (k : Int), x = .str z ∧ y = .int k ∧ (k = 0 ∨ k = 1) ∧ Q (.str (if k = 0 then PySem.Str.empty else z)) H) := by
  intro pins s σ H x y v u Q I rx ry h
  obtain ⟨z, k, rfl, rfl, hk, q⟩ := h
  obtain ⟨t, rfl⟩ := rx
  obtain ⟨t2, rfl⟩ := ry
  rcases hk with rfl | rfl
  · exact PySem.P.mul_str_none (by decide) (by decide) ⟨.str PySem.Str.empty, H, I.tok _, ⟨_, rfl⟩, q⟩
  · refine PySem.P.mul_str (by decide) (fun _ c => by simp at c) (fun _ c => by simp at c) ?_
    exact ⟨.str z, H, I, ⟨_, rfl⟩, q⟩
end
end L2
set_option Elab.async false
set_option linter.all false
set_option maxRecDepth 100000
set_option maxHeartbeats 4000000
namespace Lk
open PySem PySem.Spec PyProof.Rows L2
open He (ga ma)
section
variable {P : Program} {w : World} {K : PySem.W.Frag} {mg : Str → Option Value} {base : Heap}
/-- a def (that raises) in whose body a token is out -/
theorem def_okT {CX : CXT} {x qual : Str} {st : Stmt} {f : Addr} {N ps : List Str} {k : Nat} {sp : Sp} (F : FnP K x qual st f) (hb : BindsBy x qual st ps) (S : FnScope N ps (defScope st)) (hnc : ∀ y ∈ (defScope st).names, y.2 ≠ .cell) (hps : 1 ≤ ps.length) (len : ∀ vs H Q E, sp vs H Q E → vs.length = ps.length)
    (hbody : ∀ (cdv : Value) (A : Around) (outer : List Env) (s : Shared) (H : Hp) (vs : List V) (Q : VK) (E : XK), Room k (A.deeper (envOfC qual (defScope st) s.heap.objs.size f cdv)) → sp vs H Q E →
      ∃ t, PSsT (cxOf CX P w K mg base N qual (defScope st) f cdv A outer s H E) (defBody st) t ∧ t { nx := fun _ H' => Q .non H', rt := Q } (L2.start N vs) H) : DefOk P w K mg base CX (k + 1) f ps sp := by
  obtain ⟨fd, D⟩ := F
  obtain ⟨oc, od, dV, kV, doc, pm, an, cdv, ct, osl, rfl, lk, hcd, dv, _⟩ := D.ex
  refine ⟨_, fn_ofT lk hcd S hnc hps len (fun A outer s H vs Q E => hbody cdv A outer s H vs Q E), ?_, D.kp⟩
  obtain rfl : dV = .none := by
    rcases dv with ⟨_, e⟩ | ⟨e, _⟩
    · exact e
    · exact absurd rfl e
  exact Binds.all fun us hl => hb kV doc pm an cdv ct us hl
theorem int_nT {n : Nat} (h : n < 1000) : PySem.intText? (nT n) = some (n : Int) := TL.int_num (by have := TL.numL_len (n := n) (k := 3) (by decide) (by omega); omega)
def LS (H : Hp) (l : Addr) (ws : List Str) : Prop := H l = some (.lst (ws.map V.str))
def yn (b : Bool) : Str := if b = true then "yes" else "no"
def spTAsk (K : PySem.W.Frag) : Sp := fun vs H Q E => ∃ (r l g : Addr) (rows : List (List Nat)) (ws : List Str) (x p : Nat), vs = [.ref r, .ref l] ∧ RunAt K g H r rows ∧ LS H l ws ∧ ws[2]? = some (nT x) ∧ ws[3]? = some (nT p) ∧ x < 1000 ∧ p < 1000 ∧
  (x < rows.length ∧ p < rows.length → Q (.str (yn (toldM (runM rows).trip x p))) H) ∧ (¬ (x < rows.length ∧ p < rows.length) → E (.ref (ga K "NoKind")) none H)
theorem ok_told_ask (PO : ProgOk P) (T : Tx K mg) (F : Fx K) (X : Ex w K) : DefOk P w K mg base (L2.CX P w) 5 (ga K "told_ask") ["runtime", "words"] (spTAsk K) := by
  have D1 := ok_Runtime_ask (base := base) PO T F X
  refine def_ok F.f_told_ask bd_told_ask sc_told_ask (fun vs H Q E h => ?_) (fun cdv A outer s H vs Q E hr h => ?_)
  · obtain ⟨r, l, g, rows, ws, x, p, rfl, _⟩ := h
    rfl
  · obtain ⟨r, l, g, rows, ws, x, p, rfl, R, hl, h2, h3, hx, hp, k1, k2⟩ := h
    refine ⟨_, pss_one (ps_ret (pe_ifExp (pt_val (pe_met (E := E) (pv 0) T.c_Runtime T.m_Runtime_ask D1 hr (passes_call (takes_of rfl rfl rfl rfl) (fun _ _ _ _ h => h)) (pa_cons (pe_callTy call_int_str (by rfl) T.b_int (by decide +kernel) (pa_cons (pe_ix ix_list (pv 1) pe_int (fun _ _ => rfl)) pa_nil)) (pa_cons (pe_callTy call_int_str (by rfl) T.b_int (by decide +kernel) (pa_cons (pe_ix ix_list (pv 1) pe_int (fun _ _ => rfl)) pa_nil)) pa_nil)))) pe_str pe_str)), ?_⟩
    obtain ⟨dx, pp, s1, ss, h1, _, _, _⟩ := id R
    refine ⟨_, rfl, r, dx, _, rfl, h1, rfl, _, rfl, l, _, 2, _, rfl, rfl, .of hl, atI_nat (j := 2) (map_get h2), _, _, rfl, int_nT hx, Nat.le_trans (nT_len hx) (by decide), _, rfl, l, _, 3, _, rfl, rfl, .of hl, atI_nat (j := 3) (map_get h3), _, _, rfl, int_nT hp, Nat.le_trans (nT_len hp) (by decide), r, g, rows, x, p, rfl, R, fun h => ⟨_, rfl, ?_⟩, k2⟩
    have := k1 h
    unfold yn at this
    cases hb : toldM (runM rows).trip x p with
    | true =>
      rw [hb] at this
      refine iteT (B := True) ?_
      exact this
    | false =>
      rw [hb] at this
      refine iteF (A := True) ?_
      exact this
def spTGiven (K : PySem.W.Frag) : Sp := fun vs H Q E => ∃ (r l g : Addr) (rows : List (List Nat)) (ws : List Str) (x : Nat), vs = [.ref r, .ref l] ∧ RunAt K g H r rows ∧ rows.length ≤ 20 ∧ LS H l ws ∧ ws[2]? = some (nT x) ∧ x < 1000 ∧
  (x < rows.length → ∀ H', Same H H' → Q (.str (givM ((runM rows).trip.getD x (0, 0, [])))) H') ∧ (¬ x < rows.length → E (.ref (ga K "NoKind")) none H)
theorem ok_told_given (PO : ProgOk P) (T : Tx K mg) (F : Fx K) (X : Ex w K) : DefOk P w K mg base (L2.CX P w) 5 (ga K "told_given") ["runtime", "words"] (spTGiven K) := by
  have D1 := ok_Runtime_given (base := base) PO T F X
  have D2 := ok_given_line (P := P) (w := w) (base := base) T F
  refine def_ok F.f_told_given bd_told_given sc_told_given (fun vs H Q E h => ?_) (fun cdv A outer s H vs Q E hr h => ?_)
  · obtain ⟨r, l, g, rows, ws, x, rfl, _⟩ := h
    rfl
  · obtain ⟨r, l, g, rows, ws, x, rfl, R, hlen, hl, h2, hx, k1, k2⟩ := h
    refine ⟨_, pss_one (ps_ret (pe_cal (D2.mono (by decide : 2 ≤ 4)) hr (by rfl) T.g_given_line pass0 (pa_cons (pe_met (E := E) (pv 0) T.c_Runtime T.m_Runtime_given D1 hr (passes_call (takes_of rfl rfl rfl rfl) (fun _ _ _ _ h => h)) (pa_cons (pe_callTy call_int_str (by rfl) T.b_int (by decide +kernel) (pa_cons (pe_ix ix_list (pv 1) pe_int (fun _ _ => rfl)) pa_nil)) pa_nil)) pa_nil))), ?_⟩
    obtain ⟨dx, pp, s1, ss, h1, _, _, _⟩ := id R
    refine ⟨_, rfl, r, dx, _, rfl, h1, rfl, _, rfl, l, _, 2, _, rfl, rfl, .of hl, atI_nat (j := 2) (map_get h2), _, _, rfl, int_nT hx, Nat.le_trans (nT_len hx) (by decide), r, g, rows, x, rfl, R, fun h a t et ta => ?_, k2⟩
    refine ⟨a, t, rfl, ta, trip_ok rows (by omega) t (List.mem_of_getElem? et), fun H' e => ?_⟩
    have := k1 h H' e
    rw [getD_some et] at this
    exact this
def wT (rows : List (List Nat)) : Str := Str.ofString (toString (widthM rows))
def spTWidth (K : PySem.W.Frag) : Sp := fun vs H Q _ => ∃ (r l g : Addr) (rows : List (List Nat)), vs = [.ref r, .ref l] ∧ RunAt K g H r rows ∧ rows.length ≤ 20 ∧ ∀ H', Same H H' → Q (.str (wT rows)) H'
theorem ok_told_width (T : Tx K mg) (F : Fx K) : DefOk P w K mg base CX0 7 (ga K "told_width") ["runtime", "words"] (spTWidth K) := by
  have D1 := ok_width (P := P) (w := w) (base := base) T F
  have D2 := ok_Runtime_book (P := P) (w := w) (base := base) T F
  refine def0 F.f_told_width bd_told_width sc_told_width (fun vs H Q E h => ?_) (fun cdv A outer s H vs Q E hr h => ?_)
  · obtain ⟨r, l, g, rows, rfl, _⟩ := h
    rfl
  · obtain ⟨r, l, g, rows, rfl, R, hl, k⟩ := h
    refine ⟨_, pss_one (ps_ret (pe_callTy call_str_int (by rfl) T.b_str (by decide +kernel) (pa_cons (pe_cal D1 hr (by rfl) T.g_width pass0 (pa_cons (pe_met0 (pv 0) T.c_Runtime T.m_Runtime_book (D2.mono (by decide : 1 ≤ 6)) hr pass0) pa_nil)) pa_nil))), ?_⟩
    obtain ⟨dx, pp, s1, ss, h1, _, _, _⟩ := id R
    have ws := width_small rows hl
    exact ⟨_, rfl, r, dx, _, rfl, h1, rfl, r, g, rows, rfl, R, fun b B => ⟨b, g, rows, rfl, B, hl, fun H' e => ⟨_, rfl, log_small (by omega), k H' e⟩⟩⟩
/-! ### slots -/
def slL (rows : List (List Nat)) : List Int := (runM rows).trip.map fun t => (t.1 : Int)
def slF (rows : List (List Nat)) (i : Nat) : List Int := firstMet (fun i => (slL rows).getD i 0) i
def slT (rows : List (List Nat)) : Str := nT (slF rows rows.length).length
theorem slF_le (rows : List (List Nat)) (i : Nat) : (slF rows i).length ≤ i := firstMet_length_le _ i
theorem slF_succ (rows : List (List Nat)) (i : Nat) : slF rows (i + 1) = if (slF rows i).any (· == (slL rows).getD i 0) then slF rows i else slF rows i ++ [(slL rows).getD i 0] := firstMet_succ _ i
def spTSlots (K : PySem.W.Frag) : Sp := fun vs H Q E => ∃ (r l g : Addr) (rows : List (List Nat)), vs = [.ref r, .ref l] ∧ RunAt K g H r rows ∧ rows.length ≤ 20 ∧ ∀ H', Same H H' → Q (.str (slT rows)) H'
theorem ok_told_slots (PO : ProgOk P) (T : Tx K mg) (F : Fx K) (X : Ex w K) : DefOk P w K mg base (L2.CX P w) 5 (ga K "told_slots") ["runtime", "words"] (spTSlots K) := by
  have D1 := ok_Runtime_given (base := base) PO T F X
  have D2 := ok_Runtime_many (P := P) (w := w) (base := base) T F
  have nd := sc_told_slots.nd
  refine def_ok F.f_told_slots bd_told_slots sc_told_slots (fun vs H Q E h => ?_) (fun cdv A outer s H vs Q E hr h => ?_)
  · obtain ⟨r, l, g, rows, rfl, _⟩ := h
    rfl
  · obtain ⟨r, l, g, rows, rfl, R, hl, k⟩ := h
    refine ⟨_, pss_one (ps_ret (pe_callTy call_str_int (by rfl) T.b_str (by decide +kernel) (pa_cons (pe_callB call_lenI (by rfl) T.b_len (by decide +kernel) (pa_cons
      (pe_sci (own := [("x", 2)]) (g := gName 2) (tt := tYes) (te := tOp (rIxT K) (cMeth (ga K "Runtime") "given" (spGiven K) E0 (tVar 0) (tCons (tVar 2) tNil)) (tC (.int 0))) rfl nd
        (pi_range1 (by rfl) T.b_range (pa_cons (pe_met0 (pv 0) T.c_Runtime T.m_Runtime_many (D2.mono (by decide : 1 ≤ 4)) hr pass0) pa_nil)) (blkOk_by (N := N_told_slots) (sc := defScope s_told_slots) (by decide +kernel))
        (fun _ _ _ _ _ => pg_name (i := 2) nd rfl (Or.inl rfl)) (fun _ _ _ _ _ => pts_nil) (fun _ _ _ _ _ => pe_ix ix_tup (pe_met (pv 0) T.c_Runtime T.m_Runtime_given D1 hr passL (pa_cons (pv 2) pa_nil)) pe_int (fun _ _ => rfl))) pa_nil)) pa_nil))), ?_⟩
    obtain ⟨dx, pp, s1, ss, h1, _, _, _⟩ := id R
    have tl := (bits_len rows).2
    refine ⟨_, rfl, r, dx, _, rfl, h1, rfl, r, g, rows, rfl, R, _, rfl, by omega, by omega, fun D hD => sci_range (n := rows.length) (fun i H' => Same H H' ∧ ∃ S, H' D = some (.set S (slF rows i).length) ∧ ∀ c, S c = (slF rows i).any (· == c))
      ⟨Same.new hD, _, upd_same, fun c => rfl⟩ ?_ ?_⟩
    · rintro i H' hi ⟨e, S, q, hS⟩
      refine ⟨rfl, ?_⟩
      refine iteT (B := True) ?_
      have R1 := R.same e
      obtain ⟨dx', pp', s1', ss', h1', _, _, _⟩ := id R1
      refine ⟨_, rfl, r, dx', _, rfl, h1', rfl, _, rfl, r, g, rows, i, by rw [Int.zero_add], R1, fun _ a t et ta => ?_, fun c => absurd hi c⟩
      obtain ⟨et', ta1, ta2⟩ := ta
      have ev : (slL rows).getD i 0 = (t.1 : Int) := by
        unfold slL
        rw [List.getD_eq_getElem?_getD, List.getElem?_map, et]
        rfl
      refine ⟨a, _, 0, _, rfl, rfl, .of ta1, rfl, _, S, _, rfl, q, by have := slF_le rows i; unfold scanBound; omega, same_upd hD e, more S t.1, ?_, fun c => ?_⟩
      · rw [upd_same]
        have e2 : moreN S (slF rows i).length (t.1 : Int) = (slF rows (i + 1)).length := by
          show (if S (t.1 : Int) = true then _ else _) = _
          rw [slF_succ, ev, hS]
          split
          · rfl
          · rw [List.length_append]
            rfl
        rw [e2]
      · show (S c || decide (c = (t.1 : Int))) = _
        rw [slF_succ, ev, hS]
        split
        · rename_i hh
          by_cases hc : c = (t.1 : Int)
          · subst hc
            rw [hh]
            rfl
          · rw [decide_eq_false hc, Bool.or_false]
        · rw [List.any_append]
          congr 1
          rw [List.any_cons, List.any_nil, Bool.or_false]
          by_cases hc : c = (t.1 : Int)
          · rw [decide_eq_true hc, hc]
            simp
          · rw [decide_eq_false hc]
            symm
            simp
            exact fun d => hc d.symm
    · rintro H' ⟨e, S, q, hS⟩
      have := slF_le rows rows.length
      exact ⟨D, S, _, rfl, q, by omega, _, rfl, log_small (by rw [Int.natAbs_natCast]; omega), k H' e⟩
/-! ### groups -/
def grT (gs : List (List Nat)) : Str := match gs with
  | [] => "none"
  | g :: r => Txt.join " " ((g :: r).map fun l => jM l ",")
def GsOk (gs : List (List Nat)) : Prop := gs.length ≤ 100 ∧ ∀ l ∈ gs, l.length ≤ 100 ∧ ∀ n ∈ l, n < 1000
theorem groups_ok (rows : List (List Nat)) (h : rows.length ≤ 50) : GsOk (groupsM (runM rows).lots) := by
  have RO := run_ok rows
  unfold groupsM
  refine ⟨?_, fun l hl => ?_⟩
  · rw [List.length_map]
    have := List.length_take_le' (mostM (runM rows).lots) (runM rows).lots
    have := RO.sl
    omega
  · obtain ⟨lot, hlot, rfl⟩ := List.mem_map.mp hl
    have ml := List.mem_of_mem_take hlot
    refine ⟨?_, fun n hn => ?_⟩
    · rw [(sortN_perm lot).length_eq]
      have := RO.lz lot ml
      omega
    · have := RO.inr lot ml n ((sortN_perm lot).mem_iff.mp hn)
      have := RO.sh
      omega
def spTGroups (K : PySem.W.Frag) : Sp := fun vs H Q _ => ∃ (r l g : Addr) (rows : List (List Nat)), vs = [.ref r, .ref l] ∧ RunAt K g H r rows ∧ rows.length ≤ 20 ∧ ∀ H', Same H H' → Q (.str (grT (groupsM (runM rows).lots))) H'
theorem ok_told_groups (T : Tx K mg) (F : Fx K) : DefOk P w K mg base CX0 5 (ga K "told_groups") ["runtime", "words"] (spTGroups K) := by
  have D1 := ok_Runtime_groups (P := P) (w := w) (base := base) T F
  have D2 := ok_joined (P := P) (w := w) (base := base) T F
  have nd := sc_told_groups.nd
  refine def0 F.f_told_groups bd_told_groups sc_told_groups (fun vs H Q E h => ?_) (fun cdv A outer s H vs Q E hr h => ?_)
  · obtain ⟨r, l, g, rows, rfl, _⟩ := h
    rfl
  · obtain ⟨r, l, g, rows, rfl, R, hl, k⟩ := h
    refine ⟨_, pss_cons (ps_set (i := 2) nd rfl (Or.inl rfl) (pe_met0 (pv 0) T.c_Runtime T.m_Runtime_groups D1 hr pass0))
      (pss_cons (ps_if (pt_cmpR op_eq (pe_callB call_len (by rfl) T.b_len (by decide +kernel) (pa_cons (pv 2) pa_nil)) pe_int (nomark _)) (pss_one (ps_ret pe_str)) pss_nil)
      (pss_one (ps_ret (pe_join pe_str (pe_lc (own := [("lot", 3)]) (g := gName 3) (tt := tYes) (te := cCall spJoined E0 (tCons (tVar 3) (tCons (tC (.str ",")) tNil))) rfl nd (pi_tup (pv 2)) (blkOk_by (N := N_told_groups) (sc := defScope s_told_groups) (by decide +kernel))
        (fun _ _ _ _ _ => pg_name (i := 3) nd rfl (Or.inl rfl)) (fun _ _ _ _ _ => pts_nil) (fun _ _ _ _ _ => pe_cal (D2.mono (by decide : 1 ≤ 4)) hr (by rfl) T.g_joined pass0 (pa_cons (pv 3) (pa_cons pe_str pa_nil)))))))), ?_⟩
    obtain ⟨dx, pp, s1, ss, h1, _, _, _⟩ := id R
    have GO := groups_ok rows (by omega)
    refine ⟨_, rfl, r, dx, _, rfl, h1, rfl, r, g, rows, rfl, R, hl, fun p H1 e1 t1 => ?_⟩
    generalize groupsM (runM rows).lots = gs at GO k t1
    obtain ⟨as, ha, ra⟩ := t1
    refine ⟨_, rfl, _, _, rfl, .inr ⟨_, .of ha, rfl⟩, rfl, _, rfl, ?_⟩
    rw [List.length_map, ra.1]
    have e0 : decide (V.int ((gs.length : Nat) : Int) = V.int 0) = decide (gs.length = 0) := dec_vi gs.length 0
    rw [e0]
    cases gs with
    | nil =>
      refine iteT (B := True) ?_
      exact k H1 e1
    | cons g0 r0 =>
      rw [decide_eq_false (by simp)]
      refine iteF (A := True) ?_
      refine ⟨⟨_, rfl⟩, _, rfl, p, rfl, ⟨_, .of ha⟩, fun D hD => lc_tup (K := K) (a := p) (xs := as.map V.ref) (fun i H' => Same H1 H' ∧ H' D = some (.lst ((((g0 :: r0).take i).map fun l => jM l ",").map V.str)))
        ⟨Same.new hD, upd_same⟩ (fun i H' _ ⟨e, _⟩ => .of (e _ _ ha)) ?_ ?_⟩
      · rintro i y H' hi ⟨e, q⟩
        obtain ⟨c, hc, rfl⟩ := get_map hi
        obtain ⟨lot, hlot, rl⟩ := ra.get' hc
        obtain ⟨m1, m2⟩ := GO.2 lot (List.mem_of_getElem? hlot)
        refine ⟨rfl, ?_⟩
        refine iteT (B := True) ?_
        refine ⟨_, rfl, c, lot, ",", rfl, rl.same e, m1, m2, by decide +kernel, fun H2 e2 => ⟨_, e2 _ _ q, ?_, same_upd hD (e.trans e2), ?_⟩⟩
        · rw [List.length_map, List.length_map, List.length_take]
          have := GO.1
          exact small1000 (by omega)
        · rw [upd_same, take_snoc hlot, List.map_append, List.map_append]
          rfl
      · rintro H2 ⟨e, q⟩
        rw [List.length_map, ra.1, List.take_length] at q
        refine ⟨_, D, (g0 :: r0).map fun l => jM l ",", rfl, rfl, .inl (.of q), join_fit (k := 1301) (m := 100) (fun y hy => ?_) (by rw [List.length_map]; exact GO.1) (by decide +kernel) (by decide), k H2 (e1.trans e)⟩
        obtain ⟨lot, hlot, rfl⟩ := List.mem_map.mp hy
        obtain ⟨m1, m2⟩ := GO.2 lot hlot
        have := jM_len (bt := ",") m2 (by decide +kernel)
        omega
end
end Lk
set_option Elab.async false
set_option linter.all false
set_option maxRecDepth 100000
set_option maxHeartbeats 4000000
namespace Lk
open PySem PySem.Spec PyProof.Rows L2
open He (ga ma)
section
variable {P : Program} {w : World} {K : PySem.W.Frag} {mg : Str → Option Value} {base : Heap}
theorem repl1 (c d : Nat) : ∀ l : List Nat, StrLaws.replL [c] [d] l = l.map fun s => if s = c then d else s
  | [] => StrLaws.replL_nil
  | s :: r => by
    by_cases h : s = c
    · rw [StrLaws.replL_hit (by simp) (by simp [h])]
      show [d] ++ StrLaws.replL [c] [d] r = _
      rw [repl1 c d r, List.map_cons, if_pos h]
      rfl
    · rw [StrLaws.replL_miss (by simp [h]), repl1 c d r, List.map_cons, if_neg h]
theorem joinL_nil : ∀ l : List (List Nat), TL.joinL [] l = l.flatten
  | [] => rfl
  | [p] => by simp [TL.joinL]
  | p :: q :: r => by
    show p ++ ([] ++ TL.joinL [] (q :: r)) = _
    rw [joinL_nil (q :: r), List.nil_append]
    rfl
theorem joinL_mem {S : List Nat} : ∀ {l : List (List Nat)} {c : Nat}, c ∈ TL.joinL S l → c ∈ S ∨ ∃ p ∈ l, c ∈ p
  | [], c, h => by simp [TL.joinL] at h
  | [p], c, h => .inr ⟨p, by simp, h⟩
  | p :: q :: r, c, h => by
    have h : c ∈ p ++ (S ++ TL.joinL S (q :: r)) := h
    rcases List.mem_append.mp h with h | h
    · exact .inr ⟨p, by simp, h⟩
    · rcases List.mem_append.mp h with h | h
      · exact .inl h
      · rcases joinL_mem h with h | ⟨p', m, h⟩
        · exact .inl h
        · exact .inr ⟨p', by simp [m], h⟩
/-- the signs of joined numbers -/
theorem jM_sign {ns : List Nat} {bt : Str} {c : Nat} (h : c ∈ TL.tl (jM ns bt)) : c = 45 ∨ c ∈ TL.tl bt ∨ (48 ≤ c ∧ c ≤ 57) := by
  cases ns with
  | nil =>
    have e : TL.tl ("-" : Str) = [45] := by decide +kernel
    have h : c ∈ TL.tl ("-" : Str) := h
    rw [e] at h
    exact .inl (List.mem_singleton.mp h)
  | cons n r =>
    have h : c ∈ TL.tl (Txt.join bt ((n :: r).map nT)) := h
    rw [TL.join_eq, TL.tl_join] at h
    rcases joinL_mem h with h | ⟨p, m, h⟩
    · exact .inr (.inl h)
    · obtain ⟨y, hy, rfl⟩ := List.mem_map.mp m
      obtain ⟨z, hz, rfl⟩ := List.mem_map.mp hy
      refine .inr (.inr ?_)
      by_cases c1 : 48 ≤ c ∧ c ≤ 57
      · exact c1
      · exact absurd h (by
          unfold nT
          rw [TL.tl_num]
          exact TL.numL_free (by omega))
theorem tl_rowsT (rows : List (List Nat)) (e : Str) : TL.tl (rowsT rows e) = (rows.map fun r => TL.tl (jM r " ") ++ TL.tl e).flatten := by
  unfold rowsT
  rw [TL.join_eq, TL.tl_join]
  have e0 : TL.tl ("" : Str) = [] := by decide +kernel
  rw [e0, joinL_nil, List.map_map]
  congr 1
  apply List.map_congr_left
  intro r _
  exact TL.tl_append _ _
theorem rows_repl (rows : List (List Nat)) : Txt.replace (rowsT rows "\n") "\n" "|" = rowsT rows "|" := by
  apply TL.ext_tl
  have e1 : ("\n" : Str).cps.toList = [10] := by decide +kernel
  have e2 : ("|" : Str).cps.toList = [124] := by decide +kernel
  show (Txt.replace (rowsT rows "\n") "\n" "|").cps.toList = _
  rw [StrLaws.replace_list (by decide +kernel), e1, e2, repl1]
  show (TL.tl (rowsT rows "\n")).map _ = _
  rw [tl_rowsT, tl_rowsT, List.map_flatten, List.map_map]
  congr 1
  apply List.map_congr_left
  intro r _
  show (TL.tl (jM r " ") ++ ("\n" : Str).cps.toList).map _ = TL.tl (jM r " ") ++ ("|" : Str).cps.toList
  rw [e1, e2, List.map_append]
  congr 1
  rw [List.map_congr_left (g := id), List.map_id]
  intro c hc
  have sp : TL.tl (" " : Str) = [32] := by decide +kernel
  show (if c = 10 then 124 else c) = c
  rw [if_neg]
  rcases jM_sign hc with h | h | h
  · omega
  · rw [sp] at h
    have := List.mem_singleton.mp h
    omega
  · omega
def shT (rows : List (List Nat)) : Str := match rows with
  | [] => "none"
  | r :: t => rowsT (r :: t) "|"
theorem rowsT_len {rows : List (List Nat)} (ok : RwOk rows) {e : Str} (he : e.length = 1) : (rowsT rows e).length ≤ 900 := by
  have := join_len "" (rows.map fun r => jM r " " ++ e) 80 (fun y hy => by
    obtain ⟨r, hr, rfl⟩ := List.mem_map.mp hy
    rw [len_app, he]
    have := jM_rw ok hr
    omega) (by decide +kernel)
  rw [List.length_map] at this
  have := ok.len
  unfold rowsT
  omega
def spTShow (K : PySem.W.Frag) : Sp := fun vs H Q _ => ∃ (r l g : Addr) (rows : List (List Nat)), vs = [.ref r, .ref l] ∧ RunAt K g H r rows ∧ RwOk rows ∧ ∀ H', Same H H' → Q (.str (shT rows)) H'
theorem ok_told_show (T : Tx K mg) (F : Fx K) : DefOk P w K mg base (L2.CX P w) 4 (ga K "told_show") ["runtime", "words"] (spTShow K) := by
  have D1 := ok_Runtime_many (P := P) (w := w) (base := base) T F
  have D2 := ok_Runtime_book (P := P) (w := w) (base := base) T F
  have D3 := ok_book_text (P := P) (w := w) (base := base) T F
  refine def_okT F.f_told_show bd_told_show sc_told_show (by decide +kernel) (by decide) (fun vs H Q E h => ?_) (fun cdv A outer s H vs Q E hr h => ?_)
  · obtain ⟨r, l, g, rows, rfl, _⟩ := h
    rfl
  · obtain ⟨r, l, g, rows, rfl, R, ok, k⟩ := h
    refine ⟨_, psst_cons (PST.of (ps_if (pt_cmpR op_eq (pe_met0 (pv 0) T.c_Runtime T.m_Runtime_many (D1.mono (by decide : 1 ≤ 3)) hr pass0) pe_int (nomark _)) (pss_one (ps_ret pe_str)) pss_nil))
      (CwR.psst_one (CwR.pst_ret (CwR.pet_replC (pe_cal (D3.mono (by decide : 2 ≤ 3)) hr (by rfl) T.g_book_text pass0 (pa_cons (pe_met0 (pv 0) T.c_Runtime T.m_Runtime_book (D2.mono (by decide : 1 ≤ 3)) hr pass0) pa_nil))))), ?_⟩
    obtain ⟨dx, pp, s1, ss, h1, _, _, _⟩ := id R
    refine ⟨_, rfl, r, dx, _, rfl, h1, rfl, r, g, rows, rfl, R, rfl, _, rfl, ?_⟩
    have e0 : decide (V.int ((rows.length : Nat) : Int) = V.int 0) = decide (rows.length = 0) := dec_vi rows.length 0
    rw [e0]
    cases rows with
    | nil =>
      refine iteT (B := True) ?_
      exact k H (Same.refl _)
    | cons r0 t =>
      rw [decide_eq_false (by simp)]
      refine iteF (A := True) ?_
      have ln := rowsT_len ok (e := "\n") (by decide +kernel)
      have l1 : ("|" : Str).length = 1 := by decide +kernel
      refine ⟨_, rfl, r, dx, _, rfl, h1, rfl, r, g, r0 :: t, rfl, R, fun b B => ⟨b, g, r0 :: t, rfl, B, ok, fun H' e => ⟨_, rfl, by rw [l1]; omega, ?_⟩⟩⟩
      rw [rows_repl]
      exact k H' e
end
end Lk
set_option Elab.async false
set_option linter.all false
set_option maxRecDepth 100000
set_option maxHeartbeats 4000000
namespace Lk
open PySem PySem.Spec PyProof.Rows L2
open He (ga ma)
section
variable {P : Program} {w : World} {K : PySem.W.Frag} {mg : Str → Option Value} {base : Heap}
/-! ### a comprehension over a text -/
theorem lc_its {x : Str} {g : TG} {tt : TT} {te : TE} {vs : List Nat} {σ : L2.St} {H1 : Hp} {D : Addr} {Qd : Hp → Prop} (Pv : Nat → Hp → Prop) (h0 : Pv 0 (upd H1 D (.lst [])))
    (hs : ∀ i c H, (TL.tl x)[i]? = some c → Pv i H → g (.str ⟨#[c]⟩) (wipe σ vs) H fun σ2 H2 => wipe σ2 vs = wipe σ vs ∧ tt σ2 H2 fun b H3 =>
      if b = true then te σ2 H3 fun y H4 => ∃ acc, H4 D = some (.lst acc) ∧ acc.length < sizeLine ∧ Pv (i + 1) (upd H4 D (.lst (acc ++ [y]))) else Pv (i + 1) H3) (hd : ∀ H, Pv (TL.tl x).length H → Qd H) :
    ∃ W : Nat → Nat → Hp → Prop, (∃ m, W 0 m (upd H1 D (.lst []))) ∧ ∀ i m H, W i m H →
      ((Its x).stop i H ∧ Qd H) ∨ ((Its x).go i H ∧ ∃ Nx : Hp → Prop, (∀ H', Nx H' → ∃ m', m' < m ∧ W (i + 1) m' H') ∧ ∀ y H', (Its x).yld i H y H' → g y (wipe σ vs) H' fun σ2 H2 => wipe σ2 vs = wipe σ vs ∧ tt σ2 H2 fun b H3 =>
        if b = true then te σ2 H3 fun y H4 => ∃ acc, H4 D = some (.lst acc) ∧ acc.length < sizeLine ∧ Nx (upd H4 D (.lst (acc ++ [y]))) else Nx H3) := by
  have el : (TL.tl x).length = x.cps.size := Array.length_toList
  refine ⟨fun i m H => m = (TL.tl x).length - i ∧ i ≤ (TL.tl x).length ∧ Pv i H, ⟨_, rfl, Nat.zero_le _, h0⟩, ?_⟩
  rintro i m H ⟨rfl, hi, p⟩
  by_cases hlt : i < (TL.tl x).length
  · refine .inr ⟨by show i < x.cps.size; omega, Pv (i + 1), fun H' p' => ⟨(TL.tl x).length - (i + 1), by omega, rfl, hlt, p'⟩, fun v H' y => ?_⟩
    obtain ⟨rfl, c, hc, rfl⟩ := y
    exact hs i c _ (by rw [← hc]; exact Array.getElem?_toList) p
  · have e : i = (TL.tl x).length := by omega
    subst e
    exact .inl ⟨by show x.cps.size ≤ _; omega, hd H p⟩
/-! ### words of a line -/
def NameOk (x : Str) : Prop := 1 ≤ x.length ∧ x.length ≤ 8 ∧ ∀ c ∈ TL.tl x, 97 ≤ c ∧ c ≤ 122
theorem tl_nT9 {n : Nat} (h : n ≤ 9) : TL.tl (nT n) = [48 + n] := by
  unfold nT
  rw [TL.tl_num, TL.numL_lt (by omega)]
theorem nT9 {n : Nat} (h : n ≤ 9) : nT n = ⟨#[48 + n]⟩ := TL.ext_tl (tl_nT9 h)
def spNum : Sp := fun vs H Q _ => ∃ n : Nat, vs = [.str (nT n), .int 9] ∧ n ≤ 9 ∧ ∀ H', Same H H' → Q (.bl true) H'
theorem tl_fig : TL.tl ("0123456789" : Str) = [48, 49, 50, 51, 52, 53, 54, 55, 56, 57] := by decide +kernel
theorem tl_let : TL.tl ("abcdefghijklmnopqrstuvwxyz" : Str) = (List.range 26).map (97 + ·) := by decide +kernel
theorem all_true {bs : List Bool} (h : ∀ b ∈ bs, b = true) : bs.all id = true := List.all_eq_true.mpr h
theorem ok_is_number (T : Tx K mg) (F : Fx K) : DefOk P w K mg base CX0 1 (ga K "is_number") ["word", "most"] spNum := by
  have nd := sc_is_number.nd
  refine def0 F.f_is_number bd_is_number sc_is_number (fun vs H Q E h => ?_) (fun cdv A outer s H vs Q E hr h => ?_)
  · obtain ⟨n, rfl, _⟩ := h
    rfl
  · obtain ⟨n, rfl, hn, k⟩ := h
    obtain ⟨tk, gF⟩ := T.i_FIGURES
    refine ⟨_, pss_cons (ps_if (pw_or (pt_not (pt_chain op_lt op_le pe_int (pe_callB call_len (by rfl) T.b_len (by decide +kernel) (pa_cons (pv 0) pa_nil)) (pv 1)))
        (pw_or1 (pt_not (pt_val (pe_callB (cr_all rfl) (by rfl) T.b_all (by decide +kernel) (pa_cons (pe_lc (own := [("sign", 2)]) (g := gName 2) (tt := tYes) rfl nd (pi_str (pv 0)) (blkOk_by (N := N_is_number) (sc := defScope s_is_number) (by decide +kernel)) (fun _ _ _ _ _ => pg_name (i := 2) nd rfl (Or.inl rfl)) (fun _ _ _ _ _ => pts_nil)
          (fun _ _ _ _ _ => pe_cmpR op_in_sign (pv 2) (pe_glob (v := .str "0123456789") (by rfl) gF ⟨tk, rfl⟩) (by with_unfolding_all rfl))) pa_nil)))))).pt (pss_one (ps_ret pe_bl)) pss_nil)
      (pss_one (ps_ret (pe_or (pe_cmpR op_ne (pe_ix ix_str (pv 0) pe_int (fun _ _ => rfl)) pe_str (nomark _)) (pe_one (pe_cmpR op_eq (pv 0) pe_str (nomark _)))))), ?_⟩
    have ln : (nT n).length = 1 := by rw [TL.len_tl, tl_nT9 hn]; rfl
    refine ⟨_, rfl, _, _, rfl, ⟨by rw [ln]; exact l1, rfl⟩, _, _, rfl, rfl, true, by rw [ln]; rfl, ?_⟩
    refine iteT (B := True) ?_
    refine ⟨_, rfl, _, _, rfl, rfl, true, by rw [ln]; rfl, ?_⟩
    refine iteF (A := True) ?_
    refine ⟨_, rfl, _, rfl, fun D hD => lc_its (x := nT n) (fun i H' => Same H H' ∧ ∃ bs : List Bool, H' D = some (.lst (bs.map V.bl)) ∧ (∀ b ∈ bs, b = true) ∧ bs.length = i) ⟨Same.new hD, [], upd_same, by simp, rfl⟩ ?_ ?_⟩
    · rintro i c H' hc ⟨e, bs, q, h1, h2⟩
      have hi : i < (TL.tl (nT n)).length := (List.getElem?_eq_some_iff.mp hc).1
      refine ⟨rfl, ?_⟩
      refine iteT (B := True) ?_
      refine ⟨_, rfl, c, _, rfl, rfl, _, q, ?_, same_upd hD e, bs ++ [decide (c ∈ TL.tl ("0123456789" : Str))], by rw [upd_same, List.map_append]; rfl, ?_, by rw [List.length_append, h2]; rfl⟩
      · rw [List.length_map, h2]
        rw [← TL.len_tl, ln] at hi
        exact small1000 (by omega)
      · intro b hb
        rcases List.mem_append.mp hb with hb | hb
        · exact h1 b hb
        · rw [List.mem_singleton.mp hb]
          have hm := List.mem_of_getElem? hc
          rw [tl_nT9 hn] at hm
          rw [List.mem_singleton.mp hm, tl_fig]
          apply decide_eq_true
          have : n = 0 ∨ n = 1 ∨ n = 2 ∨ n = 3 ∨ n = 4 ∨ n = 5 ∨ n = 6 ∨ n = 7 ∨ n = 8 ∨ n = 9 := by omega
          rcases this with h | h | h | h | h | h | h | h | h | h <;> subst h <;> decide
    · rintro H' ⟨e, bs, q, h1, h2⟩
      refine ⟨D, bs, rfl, .of q, _, rfl, ?_⟩
      rw [all_true h1]
      refine iteF (A := True) ?_
      refine ⟨_, rfl, _, 0, 48 + n, rfl, rfl, by rw [ln]; exact l1, ?_, rfl, _, rfl, ?_⟩
      · show atI (TL.tl (nT n)) (0 : Int) = some (48 + n)
        rw [tl_nT9 hn]
        rfl
      · cases hd : decide (V.str ⟨#[48 + n]⟩ = V.str ("0" : Str)) with
        | false =>
          refine iteT (B := True) ?_
          exact k H' e
        | true =>
          refine iteF (A := True) ?_
          have ee := of_decide_eq_true hd
          refine ⟨_, rfl, rfl, ?_⟩
          rw [nT9 hn, hd]
          exact k H' e
def spName : Sp := fun vs H Q _ => ∃ x : Str, vs = [.str x] ∧ NameOk x ∧ ∀ H', Same H H' → Q (.bl true) H'
theorem ok_is_name (T : Tx K mg) (F : Fx K) : DefOk P w K mg base CX0 1 (ga K "is_name") ["word"] spName := by
  have nd := sc_is_name.nd
  refine def0 F.f_is_name bd_is_name sc_is_name (fun vs H Q E h => ?_) (fun cdv A outer s H vs Q E hr h => ?_)
  · obtain ⟨n, rfl, _⟩ := h
    rfl
  · obtain ⟨x, rfl, ⟨n1, n2, n3⟩, k⟩ := h
    obtain ⟨tk, gF⟩ := T.i_LETTERS
    obtain ⟨tk2, gL⟩ := T.i_LONGEST
    refine ⟨_, pss_one (ps_ret (pe_and (pe_chain op_lt op_le pe_int (pe_callB call_len (by rfl) T.b_len (by decide +kernel) (pa_cons (pv 0) pa_nil)) (pe_glob (v := .int 8) (by rfl) gL ⟨tk2, rfl⟩))
        (pe_one (pe_callB (cr_all rfl) (by rfl) T.b_all (by decide +kernel) (pa_cons (pe_lc (own := [("sign", 1)]) (g := gName 1) (tt := tYes) rfl nd (pi_str (pv 0)) (blkOk_by (N := N_is_name) (sc := defScope s_is_name) (by decide +kernel)) (fun _ _ _ _ _ => pg_name (i := 1) nd rfl (Or.inl rfl)) (fun _ _ _ _ _ => pts_nil)
          (fun _ _ _ _ _ => pe_cmpR op_in_sign (pv 1) (pe_glob (v := .str "abcdefghijklmnopqrstuvwxyz") (by rfl) gF ⟨tk, rfl⟩) (by with_unfolding_all rfl))) pa_nil))))), ?_⟩
    refine ⟨_, rfl, _, _, rfl, ⟨le_size (by omega), rfl⟩, _, _, rfl, rfl, true, by show V.bl (decide ((0 : Int) < ((x.length : Nat) : Int))) = V.bl true; rw [decide_eq_true (by omega)], ?_⟩
    refine iteT (B := True) ?_
    refine ⟨_, _, rfl, rfl, true, by show V.bl (decide (((x.length : Nat) : Int) ≤ 8)) = V.bl true; rw [decide_eq_true (by omega)], ?_⟩
    refine iteT (B := True) ?_
    refine ⟨_, rfl, _, rfl, fun D hD => lc_its (x := x) (fun i H' => Same H H' ∧ ∃ bs : List Bool, H' D = some (.lst (bs.map V.bl)) ∧ (∀ b ∈ bs, b = true) ∧ bs.length = i) ⟨Same.new hD, [], upd_same, by simp, rfl⟩ ?_ ?_⟩
    · rintro i c H' hc ⟨e, bs, q, h1, h2⟩
      have hi : i < (TL.tl x).length := (List.getElem?_eq_some_iff.mp hc).1
      refine ⟨rfl, ?_⟩
      refine iteT (B := True) ?_
      refine ⟨_, rfl, c, _, rfl, rfl, _, q, ?_, same_upd hD e, bs ++ [decide (c ∈ TL.tl ("abcdefghijklmnopqrstuvwxyz" : Str))], by rw [upd_same, List.map_append]; rfl, ?_, by rw [List.length_append, h2]; rfl⟩
      · rw [List.length_map, h2]
        rw [← TL.len_tl] at hi
        exact small1000 (by omega)
      · intro b hb
        rcases List.mem_append.mp hb with hb | hb
        · exact h1 b hb
        · rw [List.mem_singleton.mp hb, tl_let]
          apply decide_eq_true
          obtain ⟨a1, a2⟩ := n3 c (List.mem_of_getElem? hc)
          exact List.mem_map.mpr ⟨c - 97, List.mem_range.mpr (by omega), by omega⟩
    · rintro H' ⟨e, bs, q, h1, h2⟩
      refine ⟨D, bs, rfl, .of q, ?_⟩
      rw [all_true h1]
      exact k H' e
end
end Lk
set_option Elab.async false
set_option linter.all false
set_option maxRecDepth 100000
set_option maxHeartbeats 4000000
namespace Lk
open PySem PySem.Spec PyProof.Rows L2
open He (ga ma)
section
variable {P : Program} {w : World} {K : PySem.W.Frag} {mg : Str → Option Value} {base : Heap}
def KsOk (ns : List Nat) : Prop := ns.length ≤ 20 ∧ ∀ n ∈ ns, n ≤ 9
theorem split_kinds {n : Nat} {r : List Nat} : Txt.split (Txt.join "," ((n :: r).map nT)) "," = (n :: r).map nT := by
  have e : TL.tl ("," : Str) = [44] := by decide +kernel
  refine TL.split_join e (by decide +kernel) (by simp) fun p hp => ?_
  obtain ⟨z, hz, rfl⟩ := List.mem_map.mp hp
  unfold nT
  rw [TL.tl_num]
  exact TL.numL_free (by omega)
theorem jM_dash {n : Nat} {r : List Nat} : jM (n :: r) "," ≠ ("-" : Str) := by
  intro h
  have e : TL.tl ("-" : Str) = [45] := by decide +kernel
  have h45 : 45 ∈ TL.tl (Txt.join "," ((n :: r).map nT)) := by
    have : TL.tl (jM (n :: r) ",") = [45] := by rw [h, e]
    have t : TL.tl (Txt.join "," ((n :: r).map nT)) = [45] := this
    rw [t]
    simp
  rw [TL.join_eq, TL.tl_join] at h45
  have c : TL.tl ("," : Str) = [44] := by decide +kernel
  rcases joinL_mem h45 with h | ⟨p, m, h⟩
  · rw [c] at h
    simp at h
  · obtain ⟨y, hy, rfl⟩ := List.mem_map.mp m
    obtain ⟨z, hz, rfl⟩ := List.mem_map.mp hy
    exact absurd h (by
      unfold nT
      rw [TL.tl_num]
      exact TL.numL_free (by omega))
theorem kinds_len {n : Nat} {r : List Nat} (h : KsOk (n :: r)) : (Txt.join "," ((n :: r).map nT)).length + 2 ≤ sizeLine := by
  have := join_len "," ((n :: r).map nT) 3 (fun y hy => by
    obtain ⟨z, hz, rfl⟩ := List.mem_map.mp hy
    have := h.2 z hz
    exact nT_len (by omega)) (by decide +kernel)
  rw [List.length_map] at this
  have := h.1
  exact szl _ (by omega)
def spKinds : Sp := fun vs H Q _ => ∃ ns : List Nat, vs = [.str (jM ns ",")] ∧ KsOk ns ∧ ∀ H', Same H H' → Q (.bl true) H'
theorem ok_are_kinds (T : Tx K mg) (F : Fx K) : DefOk P w K mg base CX0 2 (ga K "are_kinds") ["word"] spKinds := by
  have D1 := ok_is_number (P := P) (w := w) (base := base) T F
  have nd := sc_are_kinds.nd
  refine def0 F.f_are_kinds bd_are_kinds sc_are_kinds (fun vs H Q E h => ?_) (fun cdv A outer s H vs Q E hr h => ?_)
  · obtain ⟨ns, rfl, _⟩ := h
    rfl
  · obtain ⟨ns, rfl, ok, k⟩ := h
    obtain ⟨tk, g9⟩ := T.i_FEW
    refine ⟨_, pss_one (ps_ret (pe_or (pe_cmpR op_eq (pv 0) pe_str (nomark _)) (pe_one (pe_callB (cr_all rfl) (by rfl) T.b_all (by decide +kernel) (pa_cons (pe_lc (own := [("part", 1)]) (g := gName 1) (tt := tYes) (te := cCall spNum E0 (tCons (tVar 1) (tCons (tC (.int 9)) tNil))) rfl nd (pi_list (pe_split (pv 0) pe_str)) (blkOk_by (N := N_are_kinds) (sc := defScope s_are_kinds) (by decide +kernel))
      (fun _ _ _ _ _ => pg_name (i := 1) nd rfl (Or.inl rfl)) (fun _ _ _ _ _ => pts_nil) (fun _ _ _ _ _ => pe_cal D1 hr (by rfl) T.g_is_number pass0 (pa_cons (pv 1) (pa_cons (pe_glob (v := .int 9) (by rfl) g9 ⟨tk, rfl⟩) pa_nil)))) pa_nil))))), ?_⟩
    cases ns with
    | nil =>
      refine ⟨_, rfl, rfl, true, by show V.bl (decide (V.str ("-" : Str) = V.str ("-" : Str))) = V.bl true; rw [decide_eq_true rfl], ?_⟩
      refine iteT (B := True) ?_
      exact k H (Same.refl _)
    | cons n r =>
      refine ⟨_, rfl, rfl, false, by rw [decide_eq_false (by intro c; exact jM_dash (V.str.inj c))], ?_⟩
      refine iteF (A := True) ?_
      refine ⟨_, rfl, ⟨_, rfl⟩, _, _, rfl, rfl, by decide +kernel, kinds_len ok, fun p hp => ?_⟩
      have ep : ((Txt.split (jM (n :: r) ",") ",").map V.str) = ((n :: r).map nT).map V.str := congrArg (List.map V.str) split_kinds
      rw [ep]
      have s1 : Same H (upd H p (.lst (((n :: r).map nT).map V.str))) := Same.new hp
      have q1 : upd H p (.lst (((n :: r).map nT).map V.str)) p = some (.lst (((n :: r).map nT).map V.str)) := upd_same
      generalize upd H p (.lst (((n :: r).map nT).map V.str)) = H1 at s1 q1 ⊢
      refine ⟨p, rfl, ⟨_, .of q1⟩, fun D hD => lc_list (K := K) (a := p) (xs := ((n :: r).map nT).map V.str) (fun i H' => Same H1 H' ∧ ∃ bs : List Bool, H' D = some (.lst (bs.map V.bl)) ∧ (∀ b ∈ bs, b = true) ∧ bs.length = i) ⟨Same.new hD, [], upd_same, by simp, rfl⟩ (fun i H' _ ⟨e, _⟩ => .of (e _ _ q1)) ?_ ?_⟩
      · rintro i y H' hi ⟨e, bs, q, h1, h2⟩
        obtain ⟨z, hz, rfl⟩ := get_map hi
        rw [List.getElem?_map] at hz
        cases hm : (n :: r)[i]? with
        | none =>
          rw [hm] at hz
          cases hz
        | some m =>
          rw [hm] at hz
          cases hz
          refine ⟨rfl, ?_⟩
          refine iteT (B := True) ?_
          refine ⟨_, rfl, m, rfl, ok.2 m (List.mem_of_getElem? hm), fun H2 e2 => ⟨_, e2 _ _ q, ?_, same_upd hD (e.trans e2), bs ++ [true], by rw [upd_same, List.map_append]; rfl, app_all h1 rfl, by rw [List.length_append, h2]; rfl⟩⟩
          rw [List.length_map, h2]
          have := (List.getElem?_eq_some_iff.mp hm).1
          have := ok.1
          exact small1000 (by omega)
      · rintro H' ⟨e, bs, q, h1, h2⟩
        refine ⟨D, bs, rfl, .of q, ?_⟩
        rw [all_true h1]
        exact k H' (s1.trans e)
def FitOk (part word : Str) : Prop := (part = "name" ∧ NameOk word) ∨ (part = "kinds" ∧ ∃ ns, word = jM ns "," ∧ KsOk ns) ∨ (part = "kind" ∧ ∃ n : Nat, word = nT n ∧ n ≤ 9)
def spFits : Sp := fun vs H Q _ => ∃ part word : Str, vs = [.str part, .str word] ∧ FitOk part word ∧ ∀ H', Same H H' → Q (.bl true) H'
theorem ok_fits (T : Tx K mg) (F : Fx K) : DefOk P w K mg base CX0 3 (ga K "fits") ["part", "word"] spFits := by
  have D1 := ok_is_number (P := P) (w := w) (base := base) T F
  have D2 := ok_is_name (P := P) (w := w) (base := base) T F
  have D3 := ok_are_kinds (P := P) (w := w) (base := base) T F
  refine def0 F.f_fits bd_fits sc_fits (fun vs H Q E h => ?_) (fun cdv A outer s H vs Q E hr h => ?_)
  · obtain ⟨part, word, rfl, _⟩ := h
    rfl
  · obtain ⟨part, word, rfl, ok, k⟩ := h
    obtain ⟨tk, g9⟩ := T.i_FEW
    refine ⟨_, pss_cons (ps_if (pt_cmpR op_eq (pv 0) pe_str (nomark _)) (pss_one (ps_ret (pe_cal (D2.mono (by decide : 1 ≤ 2)) hr (by rfl) T.g_is_name pass0 (pa_cons (pv 1) pa_nil)))) pss_nil)
      (pss_cons (ps_if (pt_cmpR op_eq (pv 0) pe_str (nomark _)) (pss_one (ps_ret (pe_cal D3 hr (by rfl) T.g_are_kinds pass0 (pa_cons (pv 1) pa_nil)))) pss_nil)
      (pss_one (ps_ret (pe_cal (D1.mono (by decide : 1 ≤ 2)) hr (by rfl) T.g_is_number pass0 (pa_cons (pv 1) (pa_cons (pe_glob (v := .int 9) (by rfl) g9 ⟨tk, rfl⟩) pa_nil)))))), ?_⟩
    rcases ok with ⟨rfl, h⟩ | ⟨rfl, ns, rfl, h⟩ | ⟨rfl, n, rfl, h⟩
    · refine ⟨_, rfl, rfl, true, by decide +kernel, ?_⟩
      refine iteT (B := True) ?_
      exact ⟨_, rfl, word, rfl, h, k⟩
    · refine ⟨_, rfl, rfl, false, by decide +kernel, ?_⟩
      refine iteF (A := True) ?_
      refine ⟨_, rfl, rfl, true, by decide +kernel, ?_⟩
      refine iteT (B := True) ?_
      exact ⟨_, rfl, ns, rfl, h, k⟩
    · refine ⟨_, rfl, rfl, false, by decide +kernel, ?_⟩
      refine iteF (A := True) ?_
      refine ⟨_, rfl, rfl, false, by decide +kernel, ?_⟩
      refine iteF (A := True) ?_
      exact ⟨_, rfl, n, rfl, h, k⟩
def spNums : Sp := fun vs H Q _ => ∃ ns : List Nat, vs = [.str (jM ns ",")] ∧ KsOk ns ∧ ∀ a H', Same H H' → TN H' a ns → Q (.ref a) H'
theorem ok_numbers_of (T : Tx K mg) (F : Fx K) : DefOk P w K mg base CX0 1 (ga K "numbers_of") ["word"] spNums := by
  have nd := sc_numbers_of.nd
  refine def0 F.f_numbers_of bd_numbers_of sc_numbers_of (fun vs H Q E h => ?_) (fun cdv A outer s H vs Q E hr h => ?_)
  · obtain ⟨ns, rfl, _⟩ := h
    rfl
  · obtain ⟨ns, rfl, ok, k⟩ := h
    refine ⟨_, pss_cons (ps_if (pt_cmpR op_eq (pv 0) pe_str (nomark _)) (pss_one (ps_ret (pe_tup pa_nil))) pss_nil)
      (pss_one (ps_ret (pe_tupleOf (by rfl) T.b_tuple (pe_lc (own := [("part", 1)]) (g := gName 1) (tt := tYes) (te := tCB (fun xs H Q => ∃ a n, xs = [.str a] ∧ PySem.intText? a = some n ∧ a.length ≤ 640 ∧ Q (.int n) H) (tCons (tVar 1) tNil)) rfl nd (pi_list (pe_split (pv 0) pe_str)) (blkOk_by (N := N_numbers_of) (sc := defScope s_numbers_of) (by decide +kernel))
      (fun _ _ _ _ _ => pg_name (i := 1) nd rfl (Or.inl rfl)) (fun _ _ _ _ _ => pts_nil) (fun _ _ _ _ _ => pe_callTy call_int_str (by rfl) T.b_int (by decide +kernel) (pa_cons (pv 1) pa_nil)))))), ?_⟩
    cases ns with
    | nil =>
      refine ⟨_, rfl, rfl, true, by show V.bl (decide (V.str ("-" : Str) = V.str ("-" : Str))) = V.bl true; rw [decide_eq_true rfl], ?_⟩
      refine iteT (B := True) ?_
      exact ⟨l0, fun p hp => k p _ (Same.new hp) upd_same⟩
    | cons n r =>
      refine ⟨_, rfl, rfl, false, by rw [decide_eq_false (by intro c; exact jM_dash (V.str.inj c))], ?_⟩
      refine iteF (A := True) ?_
      refine ⟨_, rfl, ⟨_, rfl⟩, _, _, rfl, rfl, by decide +kernel, kinds_len ok, fun p hp => ?_⟩
      have ep : ((Txt.split (jM (n :: r) ",") ",").map V.str) = ((n :: r).map nT).map V.str := congrArg (List.map V.str) split_kinds
      rw [ep]
      have s1 : Same H (upd H p (.lst (((n :: r).map nT).map V.str))) := Same.new hp
      have q1 : upd H p (.lst (((n :: r).map nT).map V.str)) p = some (.lst (((n :: r).map nT).map V.str)) := upd_same
      generalize upd H p (.lst (((n :: r).map nT).map V.str)) = H1 at s1 q1 ⊢
      refine ⟨p, rfl, ⟨_, .of q1⟩, fun D hD => lc_list (K := K) (a := p) (xs := ((n :: r).map nT).map V.str) (fun i H' => Same H1 H' ∧ H' D = some (.lst (((n :: r).take i).map vi))) ⟨Same.new hD, upd_same⟩ (fun i H' _ ⟨e, _⟩ => .of (e _ _ q1)) ?_ ?_⟩
      · rintro i y H' hi ⟨e, q⟩
        obtain ⟨z, hz, rfl⟩ := get_map hi
        rw [List.getElem?_map] at hz
        cases hm : (n :: r)[i]? with
        | none =>
          rw [hm] at hz
          cases hz
        | some m =>
          rw [hm] at hz
          cases hz
          have h9 := ok.2 m (List.mem_of_getElem? hm)
          refine ⟨rfl, ?_⟩
          refine iteT (B := True) ?_
          refine ⟨_, rfl, _, _, rfl, int_nT (by omega), Nat.le_trans (nT_len (by omega)) (by decide), _, q, ?_, same_upd hD e, ?_⟩
          · rw [List.length_map, List.length_take]
            have := ok.1
            exact small1000 (by omega)
          · rw [upd_same, take_snoc hm, List.map_append]
            rfl
      · rintro H' ⟨e, q⟩
        rw [List.length_map, List.length_map, List.take_length] at q
        exact .inl ⟨D, _, rfl, .of q, fun t ht => k t _ ((s1.trans e).trans (Same.new ht)) upd_same⟩
end
end Lk
set_option Elab.async false
set_option linter.all false
set_option maxRecDepth 100000
set_option maxHeartbeats 4000000
namespace Lk
open PySem PySem.Spec PyProof.Rows L2
open He (ga ma)
section
variable {P : Program} {w : World} {K : PySem.W.Frag} {mg : Str → Option Value} {base : Heap}
theorem fit_free {part word : Str} (h : FitOk part word) : ∀ c ∈ TL.tl word, c ≠ 32 ∧ c ≠ 10 := by
  intro c hc
  rcases h with ⟨_, h⟩ | ⟨_, ns, rfl, h⟩ | ⟨_, n, rfl, h⟩
  · have := h.2.2 c hc
    omega
  · have e : TL.tl ("," : Str) = [44] := by decide +kernel
    rcases jM_sign hc with h | h | h
    · omega
    · rw [e] at h
      have := List.mem_singleton.mp h
      omega
    · omega
  · rw [tl_nT9 h] at hc
    have := List.mem_singleton.mp hc
    omega
theorem fit_len {part word : Str} (h : FitOk part word) : word.length ≤ 300 := by
  rcases h with ⟨_, h⟩ | ⟨_, ns, rfl, h⟩ | ⟨_, n, rfl, h⟩
  · have := h.2.1
    omega
  · have := jM_len (ns := ns) (bt := ",") (fun n hn => by have := h.2 n hn; omega) (by decide +kernel)
    have := h.1
    omega
  · have := nT_len (n := n) (by omega)
    omega
structure LnOk (K : PySem.W.Frag) (deed : Str) (parts args : List Str) : Prop where
  form : FormOk K deed parts
  fit : AllAt FitOk parts args
  free : ∀ c ∈ TL.tl deed, c ≠ 32 ∧ c ≠ 10
  few : args.length ≤ 5
  short : deed.length ≤ 20
def lineT (ws : List Str) : Str := Txt.join " " ws
theorem tl_sp : TL.tl (" " : Str) = [32] := by decide +kernel
theorem ln_free {K : PySem.W.Frag} {deed : Str} {parts args : List Str} (h : LnOk K deed parts args) : ∀ y ∈ deed :: args, (∀ c ∈ TL.tl y, c ≠ 32 ∧ c ≠ 10) ∧ y.length ≤ 300 := by
  intro y hy
  rcases List.mem_cons.mp hy with rfl | hy
  · exact ⟨h.free, Nat.le_trans h.short (by decide)⟩
  · obtain ⟨i, hi⟩ := List.getElem?_of_mem hy
    obtain ⟨x, _, f⟩ := h.fit.get hi
    exact ⟨fit_free f, fit_len f⟩
theorem ln_split {K : PySem.W.Frag} {deed : Str} {parts args : List Str} (h : LnOk K deed parts args) : Txt.split (lineT (deed :: args)) " " = deed :: args :=
  TL.split_join tl_sp (by decide +kernel) (by simp) fun p hp => fun c => ((ln_free h p hp).1 32 c).1 rfl
theorem ln_len {K : PySem.W.Frag} {deed : Str} {parts args : List Str} (h : LnOk K deed parts args) : (lineT (deed :: args)).length ≤ 2000 := by
  have := join_len " " (deed :: args) 300 (fun y hy => (ln_free h y hy).2) (by decide +kernel)
  have := h.few
  rw [List.length_cons] at *
  unfold lineT
  omega
theorem ln_nl {K : PySem.W.Frag} {deed : Str} {parts args : List Str} (h : LnOk K deed parts args) : 10 ∉ TL.tl (lineT (deed :: args)) := by
  intro c
  unfold lineT at c
  rw [TL.join_eq, TL.tl_join, tl_sp] at c
  rcases joinL_mem c with c | ⟨p, m, c⟩
  · simp at c
  · obtain ⟨y, hy, rfl⟩ := List.mem_map.mp m
    exact ((ln_free h y hy).1 10 c).2 rfl
theorem cut1 (xs : List V) (x : V) : cutV (x :: xs) (some 1) none = xs := by
  unfold cutV
  have e : HT.sIx (x :: xs).length 0 (some ((1 : Nat) : Int)) = 1 := by
    rw [HT.sIx_nat, List.length_cons]
    omega
  rw [show (some (1 : Int)) = some ((1 : Nat) : Int) from rfl, e, HT.sIx_none, List.drop_succ_cons, List.drop_zero, List.length_cons, Nat.add_sub_cancel, List.take_length]
def spWords (K : PySem.W.Frag) : Sp := fun vs H Q _ => ∃ (deed : Str) (parts args : List Str), vs = [.str (lineT (deed :: args))] ∧ LnOk K deed parts args ∧ ∀ l H', Same H H' → LS H' l (deed :: args) → Q (.ref l) H'
theorem ok_words_of (T : Tx K mg) (F : Fx K) (X : Ex w K) : DefOk P w K mg base CX0 4 (ga K "words_of") ["line"] (spWords K) := by
  have D1 := ok_fits (P := P) (w := w) (base := base) T F
  have nd := sc_words_of.nd
  refine def0 F.f_words_of bd_words_of sc_words_of (fun vs H Q E h => ?_) (fun cdv A outer s H vs Q E hr h => ?_)
  · obtain ⟨deed, parts, args, rfl, _⟩ := h
    rfl
  · obtain ⟨deed, parts, args, rfl, ok, k⟩ := h
    obtain ⟨es, nn, KD⟩ := X.kf
    obtain ⟨pt0, hpt, hps⟩ := ok.form
    refine ⟨_, pss_cons (ps_if (pw_or (pt_not (pt_val (pe_callB call_isi (by rfl) T.b_isinstance (by decide +kernel) (pa_cons (pv 0) (pa_cons (pe_bltn (v := .ty "str") (by rfl) T.b_str (by decide +kernel) rfl) pa_nil)))))
        (pw_or1 (pt_cmpR op_in_sign pe_str (pv 0) (by with_unfolding_all rfl)))).pt pss_never pss_nil)
      (pss_cut (ps_set (i := 1) nd rfl (Or.inl rfl) (pe_split (pv 0) pe_str))
      (pss_cons (ps_if (pt_cmpR (op_notIn_kd KD) (pe_ix ix_list (pv 1) pe_int (fun _ _ => rfl)) (pe_glob (v := .ref (ga K "FORMS")) (by rfl) T.g_FORMS rfl) (by with_unfolding_all rfl)) pss_never pss_nil)
      (pss_cons (ps_set (i := 2) nd rfl (Or.inl rfl) (pe_ix ix_kdict (pe_glob (v := .ref (ga K "FORMS")) (by rfl) T.g_FORMS rfl) (pe_ix ix_list (pv 1) pe_int (fun _ _ => rfl)) (fun _ _ => rfl)))
      (pss_cons (ps_if (pw_or (pt_cmpR op_ne (pe_callB call_len (by rfl) T.b_len (by decide +kernel) (pa_cons (pv 1) pa_nil)) (pe_op op_add (pe_callB call_len (by rfl) T.b_len (by decide +kernel) (pa_cons (pv 2) pa_nil)) pe_int) (nomark _))
        (pw_or1 (pt_not (pt_val (pe_callB (cr_all rfl) (by rfl) T.b_all (by decide +kernel) (pa_cons (pe_lc (own := [("part", 3), ("word", 4)]) (g := gTup K 2 (gCons (gName 3) (gCons (gName 4) gNil))) (tt := tYes) (te := cCall spFits E0 (tCons (tVar 3) (tCons (tVar 4) tNil))) rfl nd
          (pi_zipM (by rfl) T.b_zip (pa_cons (pv 2) (pa_cons (pe_slice sl_list (pv 1) (po_some pe_int) po_none) pa_nil))) (blkOk_by (N := N_words_of) (sc := defScope s_words_of) (by decide +kernel))
          (fun _ _ _ _ _ => pg_tup (n := 2) rfl (pgs_cons (pg_name (i := 3) nd rfl (Or.inl rfl)) (pgs_cons (pg_name (i := 4) nd rfl (Or.inl rfl)) pgs_nil))) (fun _ _ _ _ _ => pts_nil) (fun _ _ _ _ _ => pe_cal D1 hr (by rfl) T.g_fits pass0 (pa_cons (pv 3) (pa_cons (pv 4) pa_nil)))) pa_nil)))))).pt pss_never pss_nil)
      (pss_one (ps_ret (pv 1))))))), ?_⟩
    refine ⟨_, rfl, _, _, _, _, true, rfl, .ty "str", .base (.str _), kit_ty (by decide +kernel), _, rfl, ?_⟩
    refine iteF (A := True) ?_
    refine ⟨_, rfl, 10, _, by decide +kernel, rfl, false, by rw [decide_eq_false (ln_nl ok)], ?_⟩
    refine iteF (A := True) ?_
    refine ⟨fun σ H' => ∃ l, σ = [some (.str (lineT (deed :: args))), some (.ref l), none, none, none] ∧ Same H H' ∧ LS H' l (deed :: args), ?_, ?_⟩
    · refine ⟨_, rfl, ⟨_, rfl⟩, _, _, rfl, rfl, by decide +kernel, szl _ (by have := ln_len ok; omega), fun p hp => ⟨p, rfl, Same.new hp, ?_⟩⟩
      show upd _ _ _ _ = _
      rw [upd_same, ln_split ok]
    · rintro σ H1 ⟨l, rfl, e1, hl⟩
      refine ⟨_, rfl, l, _, 0, _, rfl, rfl, .of hl, atI_nat (j := 0) rfl, deed, _, rfl, rfl, hpt, _, rfl, ?_⟩
      refine iteF (A := True) ?_
      refine ⟨_, rfl, l, _, 0, _, rfl, rfl, .of hl, atI_nat (j := 0) rfl, _, deed, .ref pt0, rfl, rfl, ⟨es, nn, _, KD.at_, KD.lit, hpt, rfl⟩, ?_⟩
      refine ⟨_, rfl, _, _, rfl, .inl ⟨_, .of hl, rfl⟩, _, rfl, _, _, rfl, .inr ⟨_, hps _, rfl⟩, _, _, rfl, rfl, rfl, false, ?_, ?_⟩
      · show V.bl (!decide (V.int ((((deed :: args).map V.str).length : Nat) : Int) = V.int ((((parts.map V.str).length : Nat) : Int) + 1))) = V.bl false
        rw [decide_eq_true (by rw [List.length_map, List.length_map, List.length_cons, ok.fit.1]; simp)]
        rfl
      · refine iteF (A := True) ?_
        refine ⟨_, rfl, _, rfl, _, rfl, l, _, rfl, .of hl, fun c hc => ?_⟩
        rw [show ((deed :: args).map V.str) = V.str deed :: args.map V.str from rfl, cut1]
        have e2 : Same H1 (upd H1 c (.lst (args.map V.str))) := Same.new hc
        have hc2 : upd H1 c (.lst (args.map V.str)) c = some (.lst (args.map V.str)) := upd_same
        generalize upd H1 c (.lst (args.map V.str)) = H2 at e2 hc2 ⊢
        refine ⟨pt0, c, _, _, rfl, hps _, .of hc2, fun D hD => lc_zipM (K := K) (a := pt0) (b := c) (xs := parts.map V.str) (ys := args.map V.str) (by rw [List.length_map, List.length_map, ok.fit.1])
          (fun i H' => Same H2 H' ∧ ∃ bs : List Bool, H' D = some (.lst (bs.map V.bl)) ∧ (∀ b ∈ bs, b = true) ∧ bs.length = i) ⟨Same.new hD, [], upd_same, by simp, rfl⟩ (fun i H' ⟨e, _⟩ => ⟨hps _, .of (e _ _ hc2)⟩) ?_ ?_⟩
        · rintro i x y t H' hx hy ⟨e, bs, q, h1, h2⟩ ht
          obtain ⟨part, hpart, rfl⟩ := get_map hx
          obtain ⟨word, hword, rfl⟩ := get_map hy
          have st : Same H' (upd H' t (.tup [.str part, .str word])) := Same.new ht
          refine ⟨t, _, rfl, .of upd_same, rfl, _, _, rfl, _, _, rfl, rfl, rfl, ?_⟩
          refine iteT (B := True) ?_
          refine ⟨_, rfl, _, rfl, part, word, rfl, ok.fit.2 i part word hpart hword, fun H3 e3 => ⟨_, (st.trans e3) _ _ q, ?_, same_upd hD (e.trans (st.trans e3)), bs ++ [true], by rw [upd_same, List.map_append]; rfl, app_all h1 rfl, by rw [List.length_append, h2]; rfl⟩⟩
          rw [List.length_map, h2]
          have := (List.getElem?_eq_some_iff.mp hword).1
          have := ok.few
          exact small1000 (by omega)
        · rintro H3 ⟨e, bs, q, h1, h2⟩
          refine ⟨D, bs, rfl, .of q, _, rfl, ?_⟩
          rw [all_true h1]
          refine iteF (A := True) ?_
          exact ⟨_, rfl, k l H3 ((e1.trans e2).trans e) ((e2.trans e) _ _ hl)⟩
end
end Lk
set_option Elab.async false
set_option linter.all false
set_option maxRecDepth 100000
set_option maxHeartbeats 4000000
namespace Lk
open PySem PySem.Spec PyProof.Rows L2
open He (ga ma)
section
variable {P : Program} {w : World} {K : PySem.W.Frag} {mg : Str → Option Value} {base : Heap}
/-! ### sorted names -/
def leS (a b : Str) : Prop := a.cps.toList ≤ b.cps.toList
theorem leS_of {a b : Str} (h : ltCps b.cps.toList a.cps.toList = false) : leS a b := by
  rw [ltCps_eq] at h
  exact List.not_lt.mp (of_decide_eq_false h)
theorem rising_pw : ∀ (l : List Str) (p : Str), risingS p l = true → (p :: l).Pairwise leS
  | [], p, _ => by simp
  | x :: r, p, h => by
    have h : (!ltCps x.cps.toList p.cps.toList && risingS x r) = true := h
    rw [Bool.and_eq_true] at h
    have h1 : leS p x := leS_of (by have := h.1; cases c : ltCps x.cps.toList p.cps.toList with | false => rfl | true => rw [c] at this; cases this)
    have h2 := rising_pw r x h.2
    refine List.pairwise_cons.mpr ⟨fun y hy => ?_, h2⟩
    rcases List.mem_cons.mp hy with rfl | hy
    · exact h1
    · exact List.le_trans h1 ((List.pairwise_cons.mp h2).1 y hy)
theorem sorted_pw : ∀ (l : List Str), sortedS l = true → l.Pairwise leS
  | [], _ => .nil
  | x :: r, h => rising_pw r x h
theorem sorted_uniq {xs ys zs : List Str} (h1 : xs.Perm zs) (h2 : ys.Perm zs) (s1 : sortedS xs = true) (s2 : sortedS ys = true) : xs = ys :=
  List.Perm.eq_of_pairwise (fun a b _ _ h h' => TL.ext_tl (List.le_antisymm h h')) (sorted_pw _ s1) (sorted_pw _ s2) (h1.trans h2.symm)
/-! ### tables of names -/
abbrev Tab := List (Str × List (List Nat))
def lkT (t : Tab) (n : Str) : Option (List (List Nat)) := (t.find? fun e => decide (e.1 = n)).map (·.2)
def ptT (t : Tab) (n : Str) (r : List (List Nat)) : Tab := if (t.any fun e => decide (e.1 = n)) = true then t.map (fun e => if e.1 = n then (e.1, r) else e) else t ++ [(n, r)]
def dpT (t : Tab) (n : Str) : Tab := t.filter fun e => decide (e.1 ≠ n)
section
variable {R : V → List (List Nat) → Prop}
def EnT (R : V → List (List Nat) → Prop) (kv : Key × V) (e : Str × List (List Nat)) : Prop := kv.1 = .inr e.1 ∧ R kv.2 e.2
theorem AllAt.tail {α β : Type} {R : α → β → Prop} {x : α} {y : β} {xs : List α} {ys : List β} (h : AllAt R (x :: xs) (y :: ys)) : R x y ∧ AllAt R xs ys :=
  ⟨h.2 0 x y rfl rfl, Nat.succ.inj h.1, fun i a b ha hb => h.2 (i + 1) a b ha hb⟩
theorem AllAt.nilL {α β : Type} {R : α → β → Prop} {ys : List β} (h : AllAt R [] ys) : ys = [] := List.length_eq_zero_iff.mp h.1.symm
theorem inr_inj {a b : Str} : (Sum.inr a : Key) = .inr b ↔ a = b := by simp
theorem en_key {kv : Key × V} {e : Str × List (List Nat)} (h : EnT R kv e) (n : Str) : decide (kv.1 = (Sum.inr n : Key)) = decide (e.1 = n) := by
  rw [h.1]
  exact decide_eq_decide.mpr inr_inj
theorem tab_ind {p : List (Key × V) → Tab → Prop} (h0 : p [] []) (h1 : ∀ kv e kvs t, EnT R kv e → AllAt (EnT R) kvs t → p kvs t → p (kv :: kvs) (e :: t)) : ∀ kvs t, AllAt (EnT R) kvs t → p kvs t
  | [], t, h => by rw [h.nilL]; exact h0
  | kv :: kvs, [], h => by have := h.1; simp at this
  | kv :: kvs, e :: t, h => h1 kv e kvs t h.tail.1 h.tail.2 (tab_ind h0 h1 kvs t h.tail.2)
theorem tab_val {kvs : List (Key × V)} {t : Tab} (h : AllAt (EnT R) kvs t) (n : Str) : (lkT t n = none ∧ valV kvs (.inr n) = none) ∨ ∃ r v, lkT t n = some r ∧ valV kvs (.inr n) = some v ∧ R v r := by
  refine tab_ind (p := fun kvs t => (lkT t n = none ∧ valV kvs (.inr n) = none) ∨ ∃ r v, lkT t n = some r ∧ valV kvs (.inr n) = some v ∧ R v r) (.inl ⟨rfl, rfl⟩) (fun kv e kvs t h _ ih => ?_) kvs t h
  unfold lkT valV at ih ⊢
  rw [List.find?_cons, List.find?_cons, en_key h n]
  cases c : decide (e.1 = n) with
  | true => exact .inr ⟨e.2, kv.2, rfl, rfl, h.2⟩
  | false => exact ih
theorem tab_any {kvs : List (Key × V)} {t : Tab} (h : AllAt (EnT R) kvs t) (n : Str) : (kvs.any fun kv => decide (kv.1 = (Sum.inr n : Key))) = t.any fun e => decide (e.1 = n) := by
  refine tab_ind (p := fun kvs t => (kvs.any fun kv => decide (kv.1 = (Sum.inr n : Key))) = t.any fun e => decide (e.1 = n)) rfl (fun kv e kvs t h _ ih => ?_) kvs t h
  rw [List.any_cons, List.any_cons, en_key h n, ih]
theorem tab_put {kvs : List (Key × V)} {t : Tab} (h : AllAt (EnT R) kvs t) (n : Str) {v : V} {r : List (List Nat)} (hr : R v r) : AllAt (EnT R) (putK kvs (.inr n) v) (ptT t n r) := by
  unfold putK ptT
  rw [tab_any h n]
  split
  · refine ⟨by rw [List.length_map, List.length_map, h.1], fun i x y hx hy => ?_⟩
    rw [List.getElem?_map] at hx hy
    cases e1 : kvs[i]? with
    | none =>
      rw [e1] at hx
      cases hx
    | some kv =>
      cases e2 : t[i]? with
      | none =>
        rw [e2] at hy
        cases hy
      | some e =>
        rw [e1] at hx
        rw [e2] at hy
        have en := h.2 i kv e e1 e2
        cases hx
        cases hy
        show EnT R (if kv.1 = (Sum.inr n : Key) then (kv.1, v) else kv) (if e.1 = n then (e.1, r) else e)
        by_cases c : e.1 = n
        · rw [if_pos c, if_pos (by rw [en.1, c])]
          exact ⟨en.1, hr⟩
        · rw [if_neg c, if_neg (by rw [en.1]; exact fun d => c (inr_inj.mp d))]
          exact en
  · exact h.snoc ⟨rfl, hr⟩
theorem tab_drop {kvs : List (Key × V)} {t : Tab} (h : AllAt (EnT R) kvs t) (n : Str) : AllAt (EnT R) (dropK kvs (.inr n)) (dpT t n) := by
  refine tab_ind (p := fun kvs t => AllAt (EnT R) (dropK kvs (.inr n)) (dpT t n)) .nil (fun kv e kvs t h hh ih => ?_) kvs t h
  unfold dropK dpT at ih ⊢
  rw [List.filter_cons, List.filter_cons]
  have ek : decide (kv.1 ≠ (Sum.inr n : Key)) = decide (e.1 ≠ n) := by
    rw [h.1]
    exact decide_eq_decide.mpr (not_congr inr_inj)
  rw [ek]
  split
  · exact ih.cons h
  · exact ih
theorem tab_keys {kvs : List (Key × V)} {t : Tab} (h : AllAt (EnT R) kvs t) : kvs.map (·.1) = (t.map (·.1)).map Sum.inr := by
  refine tab_ind (p := fun kvs t => kvs.map (·.1) = (t.map (·.1)).map Sum.inr) rfl (fun kv e kvs t h _ ih => ?_) kvs t h
  rw [List.map_cons, List.map_cons, List.map_cons, ih, h.1]
end
theorem ptT_len (t : Tab) (n : Str) (r : List (List Nat)) : (ptT t n r).length ≤ t.length + 1 := by
  unfold ptT
  split
  · rw [List.length_map]
    exact Nat.le_succ _
  · rw [List.length_append]
    exact Nat.le_refl _
theorem dpT_len (t : Tab) (n : Str) : (dpT t n).length ≤ t.length := List.length_filter_le _ _
theorem ptT_mem {t : Tab} {n : Str} {r : List (List Nat)} {e : Str × List (List Nat)} (h : e ∈ ptT t n r) : e ∈ t ∨ e = (n, r) := by
  unfold ptT at h
  split at h
  · obtain ⟨e', m, rfl⟩ := List.mem_map.mp h
    by_cases c : e'.1 = n
    · rw [if_pos c, c]
      exact .inr rfl
    · rw [if_neg c]
      exact .inl m
  · rcases List.mem_append.mp h with h | h
    · exact .inl h
    · exact .inr (List.mem_singleton.mp h)
theorem lkT_mem {t : Tab} {n : Str} {r : List (List Nat)} (h : lkT t n = some r) : (n, r) ∈ t := by
  unfold lkT at h
  cases c : t.find? fun e => decide (e.1 = n) with
  | none =>
    rw [c] at h
    cases h
  | some e =>
    rw [c] at h
    have h1 := List.find?_some c
    have h2 := List.mem_of_find?_eq_some c
    have h1 : e.1 = n := of_decide_eq_true h1
    cases h
    rw [← h1]
    exact h2
/-! ### what persists -/
def Fix (g : Addr) (a : Addr) : HO → Prop
  | .tup _ => True
  | .ins _ _ fs => fs.lookup ("tables" : Str) = none
  | .lst xs => a ≠ g ∧ ∃ ns : List Nat, xs = ns.map vi
  | _ => False
/-- runtimes stay -/
def Pz (g : Addr) (H H' : Hp) : Prop := ∀ a o, H a = some o → Fix g a o → H' a = some o
/-- and tables of names -/
def Pe (g : Addr) (H H' : Hp) : Prop := Pz g H H' ∧ ∀ a kvs, H a = some (.dK kvs) → H' a = some (.dK kvs)
section
variable {g : Addr} {H H' : Hp}
theorem Pe.of {H H' : Hp} (s : Same H H') : Pe g H H' := ⟨fun a o h _ => s a o h, fun a kvs h => s a _ h⟩
theorem Pz.trans {H1 H2 : Hp} (a : Pz g H H1) (b : Pz g H1 H2) : Pz g H H2 := fun x o h f => b x o (a x o h f) f
theorem Pe.trans {H1 H2 : Hp} (a : Pe g H H1) (b : Pe g H1 H2) : Pe g H H2 := ⟨a.1.trans b.1, fun x kvs h => b.2 x kvs (a.2 x kvs h)⟩
theorem TN.pe {a : Addr} {ns : List Nat} (e : Pz g H H') (h : TN H a ns) : TN H' a ns := e _ _ h trivial
theorem TT2.pe {a : Addr} {rows : List (List Nat)} (e : Pz g H H') (h : TT2 H a rows) : TT2 H' a rows := by
  obtain ⟨as, h1, h2⟩ := h
  exact ⟨as, e _ _ h1 trivial, h2.imp fun _ _ r => TN.pe e r⟩
theorem TTr.pe {a : Addr} {ts : List Trip} (e : Pz g H H') (h : TTr H a ts) : TTr H' a ts := by
  obtain ⟨as, h1, h2⟩ := h
  exact ⟨as, e _ _ h1 trivial, h2.imp fun _ _ ⟨w', r1, r2⟩ => ⟨w', e _ _ r1 trivial, TN.pe e r2⟩⟩
theorem BookAt.pe {b : Addr} {rows : List (List Nat)} (e : Pz g H H') (h : BookAt K g H b rows) : BookAt K g H' b rows := by
  obtain ⟨dx, p, q, h1, h2, h3, h4⟩ := h
  exact ⟨dx, p, q, e _ _ h1 rfl, h2.pe e, e _ _ h3 ⟨h4, _, rfl⟩, h4⟩
theorem StepAt.pe {s : Addr} {rows : List (List Nat)} (e : Pz g H H') (h : StepAt K g H s rows) : StepAt K g H' s rows := by
  obtain ⟨b, t, l, k, h1, h2, h3, h4, h5⟩ := h
  exact ⟨b, t, l, k, e _ _ h1 trivial, h2.pe e, h3.pe e, h4.pe e, h5.pe e⟩
theorem RunAt.pe {r : Addr} {rows : List (List Nat)} (e : Pz g H H') (h : RunAt K g H r rows) : RunAt K g H' r rows := by
  obtain ⟨dx, p, s, ss, h1, h2, h3, h4⟩ := h
  exact ⟨dx, p, s, ss, e _ _ h1 rfl, e _ _ h2 trivial, h3, h4.pe e⟩
/-- a dict is written -/
theorem pz_dict {a : Addr} {kvs : List (Key × V)} {o : HO} (h : H a = some (.dK kvs)) : Pz g H (upd H a o) := fun x u e f => by
  rw [upd_ne (by intro c; subst c; rw [h] at e; cases e; cases f)]
  exact e
end
/-- a name's runtime -/
def RunV (K : PySem.W.Frag) (g : Addr) (H : Hp) (v : V) (rows : List (List Nat)) : Prop := ∃ r, v = .ref r ∧ RunAt K g H r rows
def TabAt (K : PySem.W.Frag) (g : Addr) (H : Hp) (a : Addr) (t : Tab) : Prop := ∃ kvs, H a = some (.dK kvs) ∧ AllAt (EnT (RunV K g H)) kvs t
theorem TabAt.pe {g : Addr} {H H' : Hp} {a : Addr} {t : Tab} (e : Pe g H H') (h : TabAt K g H a t) : TabAt K g H' a t := by
  obtain ⟨kvs, h1, h2⟩ := h
  exact ⟨kvs, e.2 _ _ h1, h2.imp fun kv en ⟨a, r, b, c⟩ => ⟨a, r, b, c.pe e.1⟩⟩
def DeskAt (K : PySem.W.Frag) (g : Addr) (H : Hp) (d : Addr) (tabs : List Tab) : Prop := ∃ dx p, ∃ as : List Addr, H d = some (.ins (ga K "Desk") dx [("tables", .ref p)]) ∧ H p = some (.tup (as.map V.ref)) ∧ AllAt (TabAt K g H) as tabs
theorem DeskAt.pe {g : Addr} {H H' : Hp} {d : Addr} {tabs : List Tab} (e : Pe g H H') (hd : ∀ o, H d = some o → H' d = some o) (h : DeskAt K g H d tabs) : DeskAt K g H' d tabs := by
  obtain ⟨dx, p, as, h1, h2, h3⟩ := h
  exact ⟨dx, p, as, hd _ h1, e.1 _ _ h2 trivial, h3.imp fun _ _ r => r.pe e⟩
theorem DeskAt.same {g : Addr} {H H' : Hp} {d : Addr} {tabs : List Tab} (e : Same H H') (h : DeskAt K g H d tabs) : DeskAt K g H' d tabs := h.pe (.of e) (e d)
theorem tables_look (p : Addr) : ([("tables", .ref p)] : List (Str × V)).lookup ("tables" : Str) = some (V.ref p) := rfl
/-- the desk alone is written -/
theorem pe_desk {g d C dx p : Addr} {H H' : Hp} (hd : H d = some (.ins C dx [("tables", .ref p)])) (b : But d H H') : Pe g H H' := ⟨fun a o h f => b a o (fun c => by
  subst c
  rw [hd] at h
  cases h
  cases f) h, fun a kvs h => b a _ (fun c => by
  subst c
  rw [hd] at h
  cases h) h⟩
end
end Lk
set_option Elab.async false
set_option linter.all false
set_option maxRecDepth 100000
set_option maxHeartbeats 4000000
namespace Lk
open PySem PySem.Spec PyProof.Rows L2
open He (ga ma)
section
variable {P : Program} {w : World} {K : PySem.W.Frag} {mg : Str → Option Value} {base : Heap}
def insS (a : Str) : List Str → List Str
  | [] => [a]
  | b :: r => if ltCps b.cps.toList a.cps.toList = true then b :: insS a r else a :: b :: r
def sortS : List Str → List Str
  | [] => []
  | a :: r => insS a (sortS r)
theorem insS_perm (a : Str) : ∀ l : List Str, (insS a l).Perm (a :: l)
  | [] => .refl _
  | b :: r => by
    unfold insS
    split
    · exact ((insS_perm a r).cons b).trans (.swap a b r)
    · exact .refl _
theorem sortS_perm : ∀ l : List Str, (sortS l).Perm l
  | [] => .refl _
  | a :: r => (insS_perm a _).trans ((sortS_perm r).cons a)
theorem not_lt_of {a b : List Nat} (h : ltCps a b = true) : ltCps b a = false := by
  rw [ltCps_eq] at h ⊢
  have h := of_decide_eq_true h
  exact decide_eq_false (fun c => List.lt_irrefl _ (List.lt_trans h c))
theorem insS_sorted (a : Str) : ∀ (l : List Str) , sortedS l = true → sortedS (insS a l) = true ∧ ∀ p : Str, ltCps a.cps.toList p.cps.toList = false → risingS p l = true → risingS p (insS a l) = true
  | [], _ => ⟨rfl, fun p h _ => by show (!ltCps a.cps.toList p.cps.toList && true) = true; rw [h]; rfl⟩
  | b :: r, h => by
    unfold insS
    by_cases c : ltCps b.cps.toList a.cps.toList = true
    · rw [if_pos c]
      have hr : risingS b r = true := h
      have hs : sortedS r = true := by
        cases r with
        | nil => rfl
        | cons x t =>
          have hr : (!ltCps x.cps.toList b.cps.toList && risingS x t) = true := hr
          rw [Bool.and_eq_true] at hr
          exact hr.2
      have ih := (insS_sorted a r hs).2 b (not_lt_of c) hr
      refine ⟨ih, fun p hp hq => ?_⟩
      have hq : (!ltCps b.cps.toList p.cps.toList && risingS b r) = true := hq
      rw [Bool.and_eq_true] at hq
      show (!ltCps b.cps.toList p.cps.toList && risingS b (insS a r)) = true
      rw [hq.1, ih]
      rfl
    · rw [if_neg c]
      have c : ltCps b.cps.toList a.cps.toList = false := by simpa using c
      have hr : risingS b r = true := h
      refine ⟨?_, fun p hp hq => ?_⟩
      · show (!ltCps b.cps.toList a.cps.toList && risingS b r) = true
        rw [c, hr]
        rfl
      · show (!ltCps a.cps.toList p.cps.toList && (!ltCps b.cps.toList a.cps.toList && risingS b r)) = true
        rw [hp, c, hr]
        rfl
theorem sortS_sorted : ∀ l : List Str, sortedS (sortS l) = true
  | [] => rfl
  | a :: r => (insS_sorted a _ (sortS_sorted r)).1
theorem sortS_eq {ys zs : List Str} (h : ys.Perm zs) (s : sortedS ys = true) : ys = sortS zs := sorted_uniq h (sortS_perm zs) s (sortS_sorted zs)
def nmL (t : Tab) : List Str := sortS (t.map (·.1))
def nmT (t : Tab) : Str := match nmL t with
  | [] => "none"
  | y :: r => Txt.join " " (y :: r)
/-! ### the desk -/
structure WfR (rows : List (List Nat)) : Prop where
  len : rows.length ≤ 10
  few : ∀ r ∈ rows, r.length ≤ 6
  lt : ∀ (i : Nat) r, rows[i]? = some r → ∀ p ∈ r, p < i
theorem WfR.rw {rows : List (List Nat)} (h : WfR rows) : RwOk rows := ⟨h.len, h.few, fun r m n hn => by
  obtain ⟨i, hi⟩ := List.getElem?_of_mem m
  have := h.lt i r hi n hn
  have := (List.getElem?_eq_some_iff.mp hi).1
  have := h.len
  omega⟩
structure TsOk (tabs : List Tab) : Prop where
  few : tabs.length ≤ 55
  each : ∀ (i : Nat) t, tabs[i]? = some t → t.length ≤ i
  ok : ∀ t ∈ tabs, ∀ e ∈ t, NameOk e.1 ∧ WfR e.2
def spDkInit (K : PySem.W.Frag) : Sp := fun vs H Q _ => ∃ (d dx : Addr), vs = [.ref d] ∧ H d = some (.ins (ga K "Desk") dx []) ∧ ∀ g H', But d H H' → DeskAt K g H' d [[]] → Q .non H'
theorem ok_Desk_init (T : Tx K mg) (F : Fx K) : DefOk P w K mg base CX0 1 (ma K (ga K "Desk") "__init__") ["self"] (spDkInit K) := by
  refine def0 F.f_Desk_init bd_Desk_init sc_Desk_init (fun vs H Q E h => ?_) (fun cdv A outer s H vs Q E hr h => ?_)
  · obtain ⟨d, dx, rfl, _⟩ := h
    rfl
  · obtain ⟨d, dx, rfl, hd, k⟩ := h
    refine ⟨_, pss_one (ps_fld (pv 0) (pe_tup (pa_cons pe_dnewK pa_nil)) (by rfl)), ?_⟩
    refine fun e he => ⟨l1, fun p hp => ?_⟩
    have s1 : Same H (upd H e (.dK [])) := Same.new he
    have s2 : Same (upd H e (.dK [])) (upd (upd H e (.dK [])) p (.tup [.ref e])) := Same.new hp
    have ne : e ≠ d := (ne_of_none hd he).symm
    have np : p ≠ d := (ne_of_none (s1 _ _ hd) hp).symm
    refine ⟨_, rfl, d, _, dx, _, rfl, s2 _ _ (s1 _ _ hd), T.c_Desk, T.n_Desk_tables, by decide, ?_⟩
    refine k 0 _ (fun c o n h => by rw [upd_ne n]; exact s2 _ _ (s1 _ _ h)) ?_
    refine ⟨dx, p, [e], upd_same, by rw [upd_ne np, upd_same]; rfl, AllAt.nil.cons ⟨[], ?_, .nil⟩⟩
    rw [upd_ne ne]
    exact s2 _ _ upd_same
end
section
variable {P : Program} {w : World} {K : PySem.W.Frag} {mg : Str → Option Value} {base : Heap}
theorem DeskAt.len {g : Addr} {H : Hp} {d : Addr} {tabs : List Tab} (h : DeskAt K g H d tabs) : True := trivial
def spDone (K : PySem.W.Frag) : Sp := fun vs H Q _ => ∃ (d a g : Addr) (s : Str) (tabs : List Tab) (t : Tab), vs = [.ref d, .ref a, .str s] ∧ DeskAt K g H d tabs ∧ TabAt K g H a t ∧ tabs.length ≤ 100 ∧ ∀ H', But d H H' → DeskAt K g H' d (tabs ++ [t]) → Q (.str s) H'
theorem ok_Desk_done (T : Tx K mg) (F : Fx K) : DefOk P w K mg base CX0 1 (ma K (ga K "Desk") "done") ["self", "table", "answer"] (spDone K) := by
  refine def0 F.f_Desk_done bd_Desk_done sc_Desk_done (fun vs H Q E h => ?_) (fun cdv A outer s0 H vs Q E hr h => ?_)
  · obtain ⟨d, a, g, s, tabs, t, rfl, _⟩ := h
    rfl
  · obtain ⟨d, a, g, s, tabs, t, rfl, ⟨dx, p, as, h1, h2, h3⟩, ht, hl, k⟩ := h
    refine ⟨_, pss_cons (ps_fld (pv 0) (pe_op op_catA (pe_fld (pv 0) (by rfl)) (pe_tup (pa_cons (pv 1) pa_nil))) (by rfl)) (pss_one (ps_ret (pv 2))), ?_⟩
    refine ⟨_, rfl, d, _, dx, _, _, rfl, h1, T.c_Desk, T.n_Desk_tables, rfl, _, rfl, l1, fun c hc => ?_⟩
    have s1 : Same H (upd H c (.tup [.ref a])) := Same.new hc
    have fin : ∀ (q : Addr) (H2 : Hp), Same H H2 → H2 q = some (.tup ((as ++ [a]).map V.ref)) → Q (.str s) (upd H2 d (.ins (ga K "Desk") dx (putF "tables" (.ref q) [("tables", .ref p)]))) := by
      intro q H2 e hq
      have bt : But d H (upd H2 d (.ins (ga K "Desk") dx (putF "tables" (.ref q) [("tables", .ref p)]))) := fun b o n h => by rw [upd_ne n]; exact e _ _ h
      have pe := pe_desk (g := g) h1 bt
      have nq : q ≠ d := ne_of hq (e _ _ h1) (by intro h; cases h)
      exact k _ bt ⟨dx, q, as ++ [a], upd_same, by rw [upd_ne nq]; exact hq, (h3.imp fun _ _ r => r.pe pe).snoc (ht.pe pe)⟩
    refine ⟨p, c, _, [.ref a], rfl, rfl, .of (s1 _ _ h2), .of upd_same, ?_, fun h0 => ?_, fun h0 h00 => ?_, fun h0 h00 q hq => ?_⟩
    · rw [List.length_map, h3.1]
      exact le_size (by show _ + 1 ≤ 1000; omega)
    · refine ⟨_, rfl, d, _, dx, _, rfl, s1 _ _ h1, T.c_Desk, T.n_Desk_tables, by show 1 < 1000; decide, _, rfl, fin c _ s1 ?_⟩
      have : as = [] := by simpa using h0
      rw [this]
      exact upd_same
    · cases h00
    · have s2 := s1.trans (Same.new (o := .tup (as.map V.ref ++ [.ref a])) hq)
      refine ⟨_, rfl, d, _, dx, _, rfl, s2 _ _ h1, T.c_Desk, T.n_Desk_tables, by show 1 < 1000; decide, _, rfl, fin q _ s2 ?_⟩
      rw [upd_same, List.map_append]
      rfl
theorem AllAt.last {α β : Type} {R : α → β → Prop} {xs : List α} {ys : List β} {y : β} (h : AllAt R xs (ys ++ [y])) : ∃ xs' x, xs = xs' ++ [x] ∧ AllAt R xs' ys ∧ R x y := by
  have hl := h.1
  rw [List.length_append] at hl
  have hl : xs.length = ys.length + 1 := hl
  have hne : xs ≠ [] := by
    intro c
    rw [c] at hl
    simp at hl
  refine ⟨xs.dropLast, xs.getLast hne, (List.dropLast_concat_getLast hne).symm, ⟨by rw [List.length_dropLast, hl]; rfl, fun i a b ha hb => ?_⟩, ?_⟩
  · have hi := (List.getElem?_eq_some_iff.mp hb).1
    rw [List.getElem?_dropLast] at ha
    split at ha
    · refine h.2 i a b ha ?_
      rw [List.getElem?_append_left hi]
      exact hb
    · cases ha
  · refine h.2 ys.length _ y ?_ (by rw [List.getElem?_append_right (Nat.le_refl _), Nat.sub_self]; rfl)
    rw [List.getLast_eq_getElem]
    exact List.getElem?_eq_some_iff.mpr ⟨by omega, by congr 1; omega⟩
def spAllNames (K : PySem.W.Frag) : Sp := fun vs H Q _ => ∃ (d g : Addr) (tabs : List Tab) (t : Tab), vs = [.ref d] ∧ DeskAt K g H d (tabs ++ [t]) ∧ t.length < 64 ∧ (∀ e ∈ t, NameOk e.1) ∧ ∀ H', Same H H' → Q (.str (nmT t)) H'
theorem nm_fit {t : Tab} (h : ∀ e ∈ t, NameOk e.1) (hl : t.length < 64) : ∀ y ∈ nmL t, y.length ≤ 8 := fun y hy => by
  have := (sortS_perm (t.map (·.1))).mem_iff.mp hy
  obtain ⟨e, m, rfl⟩ := List.mem_map.mp this
  exact (h e m).2.1
theorem ok_Desk_all_names (T : Tx K mg) (F : Fx K) : DefOk P w K mg base CX0 1 (ma K (ga K "Desk") "all_names") ["self"] (spAllNames K) := by
  refine def0 F.f_Desk_all_names bd_Desk_all_names sc_Desk_all_names (fun vs H Q E h => ?_) (fun cdv A outer s0 H vs Q E hr h => ?_)
  · obtain ⟨d, g, tabs, t, rfl, _⟩ := h
    rfl
  · obtain ⟨d, g, tabs, t, rfl, ⟨dx, p, as, h1, h2, h3⟩, hl, hn, k⟩ := h
    refine ⟨_, pss_cons (ps_if (pt_cmpR op_eq (pe_callB call_lenD (by rfl) T.b_len (by decide +kernel) (pa_cons (pe_ix ix_tup (pe_fld (pv 0) (by rfl)) (pe_un un_neg pe_int) (fun _ _ => rfl)) pa_nil)) pe_int (nomark _)) (pss_one (ps_ret pe_str)) pss_nil)
      (pss_one (ps_ret (pe_join pe_str (pe_callB (call_sortedD rfl) (by rfl) T.b_sorted (by decide +kernel) (pa_cons (pe_ix ix_tup (pe_fld (pv 0) (by rfl)) (pe_un un_neg pe_int) (fun _ _ => rfl)) pa_nil))))), ?_⟩
    obtain ⟨as', a, rfl, h4, kvs, h5, h6⟩ := h3.last
    refine ⟨_, rfl, d, _, dx, _, _, rfl, h1, T.c_Desk, T.n_Desk_tables, rfl, _, rfl, p, _, _, _, rfl, rfl, .of h2, last_ref as' a, a, kvs, rfl, h5, rfl, _, rfl, ?_⟩
    have e0 : decide (V.int ((kvs.length : Nat) : Int) = V.int 0) = decide (t.length = 0) := by
      rw [h6.1]
      exact dec_vi t.length 0
    rw [e0]
    have kk : ∀ ys : List Str, ys = nmL t → ∀ H', Same H H' → (match ys with | [] => Q (.str ("none" : Str)) H' | y :: r => Q (.str (Txt.join " " (y :: r))) H') := by
      rintro ys rfl H' e
      have := k H' e
      unfold nmT at this
      cases hnm : nmL t with
      | nil =>
        rw [hnm] at this
        exact this
      | cons y r =>
        rw [hnm] at this
        exact this
    cases t with
    | nil =>
      refine iteT (B := True) ?_
      exact kk [] rfl H (Same.refl _)
    | cons en0 t0 =>
      rw [decide_eq_false (by simp)]
      refine iteF (A := True) ?_
      refine ⟨⟨_, rfl⟩, _, rfl, d, _, dx, _, _, rfl, h1, T.c_Desk, T.n_Desk_tables, rfl, _, rfl, p, _, _, _, rfl, rfl, .of h2, last_ref as' a, a, kvs, (en0 :: t0).map (·.1), rfl, .of h5, tab_keys h6, by rw [List.length_map]; exact hl, fun ys q hp hs hq => ?_⟩
      have ey := sortS_eq hp hs
      have hlen : ys.length = (en0 :: t0).length := by rw [hp.length_eq, List.length_map]
      have fit := nm_fit hn hl
      have := kk ys ey _ (Same.new (o := .lst (ys.map V.str)) hq)
      cases ys with
      | nil => simp at hlen
      | cons y r =>
        refine ⟨_, q, y :: r, rfl, rfl, .inl (.of upd_same), join_fit (k := 8) (m := 64) (fun z hz => fit z (by unfold nmL; rw [← ey]; exact hz)) (by omega) (by decide +kernel) (by decide), this⟩
def spDkUndo (K : PySem.W.Frag) : Sp := fun vs H Q E => ∃ (d g : Addr) (tabs : List Tab) (t : Tab), vs = [.ref d] ∧ DeskAt K g H d (tabs ++ [t]) ∧ (tabs = [] → E (.ref (ga K "NothingDone")) none H) ∧ (tabs ≠ [] → ∀ H', But d H H' → DeskAt K g H' d tabs → Q (.str "ok") H')
theorem cut_last (as : List Addr) (a : Addr) (h : as ≠ []) : cutV ((as ++ [a]).map V.ref) none (some (-(1 : Int))) = as.map V.ref ∧ ¬ (HT.sIx ((as ++ [a]).map V.ref).length 0 none = 0 ∧ HT.sIx ((as ++ [a]).map V.ref).length ((as ++ [a]).map V.ref).length (some (-(1 : Int))) = ((as ++ [a]).map V.ref).length) := by
  have hl : ((as ++ [a]).map V.ref).length = as.length + 1 := by
    rw [List.length_map, List.length_append]
    rfl
  have e : HT.sIx ((as ++ [a]).map V.ref).length ((as ++ [a]).map V.ref).length (some (-(1 : Int))) = as.length := by
    rw [hl]
    show (if (-(1 : Int)) < 0 then ((-(1 : Int)) + ((as.length + 1 : Nat) : Int)).toNat else min (-(1 : Int)).toNat (as.length + 1)) = as.length
    rw [if_pos (by decide)]
    omega
  refine ⟨?_, fun c => by rw [e, hl] at c; omega⟩
  unfold cutV
  rw [e, HT.sIx_none, List.drop_zero, Nat.sub_zero, List.map_append, ← List.length_map (f := V.ref), List.take_left]
theorem ok_Desk_undo (PO : ProgOk P) (T : Tx K mg) (F : Fx K) (X : Ex w K) : DefOk P w K mg base (L2.CX P w) 2 (ma K (ga K "Desk") "undo") ["self"] (spDkUndo K) := by
  refine def_ok F.f_Desk_undo bd_Desk_undo sc_Desk_undo (fun vs H Q E h => ?_) (fun cdv A outer s0 H vs Q E hr h => ?_)
  · obtain ⟨d, g, tabs, t, rfl, _⟩ := h
    rfl
  · obtain ⟨d, g, tabs, t, rfl, ⟨dx, p, as, h1, h2, h3⟩, k1, k2⟩ := h
    refine ⟨_, pss_cons (ps_if (pt_cmpR op_eq (pe_callB call_len (by rfl) T.b_len (by decide +kernel) (pa_cons (pe_fld (pv 0) (by rfl)) pa_nil)) pe_int (nomark _)) (pss_one (ps_raise rfl (takes_of rfl rfl rfl rfl) (pmk_sup0 X.ex_NothingDone (by rfl) ⟨T.b_super, PO.f, PO.t⟩ hr (by rfl) T.g_NothingDone))) pss_nil)
      (pss_cons (ps_fld (pv 0) (pe_slice sl_tup (pe_fld (pv 0) (by rfl)) po_none (po_some (pe_un un_neg pe_int))) (by rfl)) (pss_one (ps_ret pe_str))), ?_⟩
    obtain ⟨as', a, rfl, h4, h5⟩ := h3.last
    refine ⟨_, rfl, d, _, dx, _, _, rfl, h1, T.c_Desk, T.n_Desk_tables, rfl, _, _, rfl, .inr ⟨_, .of h2, rfl⟩, rfl, _, rfl, ?_⟩
    have e0 : decide (V.int (((((as' ++ [a]).map V.ref).length : Nat)) : Int) = V.int 1) = decide (tabs.length = 0) := by
      rw [List.length_map, List.length_append, h4.1]
      have := dec_vi (tabs.length + 1) 1
      refine this.trans (decide_eq_decide.mpr (by omega))
    rw [e0]
    by_cases h0 : tabs = []
    · rw [decide_eq_true (by rw [h0]; rfl)]
      refine iteT (B := True) ?_
      exact k1 h0
    · have h0' : tabs.length ≠ 0 := fun c => h0 (List.length_eq_zero_iff.mp c)
      rw [decide_eq_false h0']
      refine iteF (A := True) ?_
      have has : as' ≠ [] := by
        intro c
        rw [c] at h4
        exact h0' h4.1.symm
      obtain ⟨c1, c2⟩ := cut_last as' a has
      refine ⟨_, rfl, d, _, dx, _, _, rfl, h1, T.c_Desk, T.n_Desk_tables, rfl, _, rfl, _, rfl, p, _, rfl, .of h2, c2, fun q hq => ?_⟩
      rw [c1]
      have s1 : Same H (upd H q (.tup (as'.map V.ref))) := Same.new hq
      refine ⟨_, rfl, d, _, dx, _, rfl, s1 _ _ h1, T.c_Desk, T.n_Desk_tables, by show 1 < 1000; decide, ?_⟩
      have bt : But d H (upd (upd H q (.tup (as'.map V.ref))) d (.ins (ga K "Desk") dx (putF "tables" (.ref q) [("tables", .ref p)]))) := fun b o n h => by rw [upd_ne n]; exact s1 _ _ h
      have pe := pe_desk (g := g) h1 bt
      have nq : q ≠ d := (ne_of_none h1 hq).symm
      exact k2 h0 _ bt ⟨dx, q, as', upd_same, by rw [upd_ne nq, upd_same], h4.imp fun _ _ r => r.pe pe⟩
def spUndoable (K : PySem.W.Frag) : Sp := fun vs H Q _ => ∃ (d g : Addr) (tabs : List Tab), vs = [.ref d] ∧ DeskAt K g H d tabs ∧ Q (.int ((tabs.length : Nat) - 1)) H
theorem ok_Desk_undoable (T : Tx K mg) (F : Fx K) : DefOk P w K mg base CX0 1 (ma K (ga K "Desk") "undoable") ["self"] (spUndoable K) := by
  refine def0 F.f_Desk_undoable bd_Desk_undoable sc_Desk_undoable (fun vs H Q E h => ?_) (fun cdv A outer s0 H vs Q E hr h => ?_)
  · obtain ⟨d, g, tabs, rfl, _⟩ := h
    rfl
  · obtain ⟨d, g, tabs, rfl, ⟨dx, p, as, h1, h2, h3⟩, k⟩ := h
    refine ⟨_, pss_one (ps_ret (pe_op op_sub (pe_callB call_len (by rfl) T.b_len (by decide +kernel) (pa_cons (pe_fld (pv 0) (by rfl)) pa_nil)) pe_int)), ?_⟩
    refine ⟨_, rfl, d, _, dx, _, _, rfl, h1, T.c_Desk, T.n_Desk_tables, rfl, _, _, rfl, .inr ⟨_, .of h2, rfl⟩, _, _, rfl, rfl, ?_⟩
    show Q (V.int (((((as.map V.ref).length : Nat)) : Int) - 1)) H
    rw [List.length_map, h3.1]
    exact k
end
end Lk
set_option Elab.async false
set_option linter.all false
set_option maxRecDepth 100000
set_option maxHeartbeats 4000000
namespace Lk
open PySem PySem.Spec PyProof.Rows L2
open He (ga ma)
section
variable {P : Program} {w : World} {K : PySem.W.Frag} {mg : Str → Option Value} {base : Heap}
/-! ### lines of the desk -/
inductive Cmd where
  | names | undo | new (n : Str) | drop (n : Str) | load (n : Str) (ns : List Nat) | ask (n : Str) (x p : Nat) | given (n : Str) (x : Nat) | sho (n : Str) | width (n : Str) | slots (n : Str) | groups (n : Str)
def deedC : Cmd → Str
  | .names => "names" | .undo => "undo" | .new _ => "new" | .drop _ => "drop" | .load _ _ => "load" | .ask _ _ _ => "ask" | .given _ _ => "given" | .sho _ => "show" | .width _ => "width" | .slots _ => "slots" | .groups _ => "groups"
def argsC : Cmd → List Str
  | .names => [] | .undo => [] | .new n => [n] | .drop n => [n] | .load n ns => [n, jM ns ","] | .ask n x p => [n, nT x, nT p] | .given n x => [n, nT x] | .sho n => [n] | .width n => [n] | .slots n => [n] | .groups n => [n]
def CmdOk : Cmd → Prop
  | .names => True | .undo => True | .new n => NameOk n | .drop n => NameOk n | .load n ns => NameOk n ∧ KsOk ns | .ask n x p => NameOk n ∧ x ≤ 9 ∧ p ≤ 9 | .given n x => NameOk n ∧ x ≤ 9 | .sho n => NameOk n | .width n => NameOk n | .slots n => NameOk n | .groups n => NameOk n
inductive Ans where
  | told (s : Str) | book (n : Str) | kind | bad | undo
def onT (tabs : List Tab) (t : Tab) (n : Str) (k : List (List Nat) → Ans × List Tab) : Ans × List Tab := match lkT t n with
  | none => (.book n, tabs ++ [t])
  | some rows => k rows
/-- what a line does at the tables tabs ++ [t] -/
def tellM (tabs : List Tab) (t : Tab) : Cmd → Ans × List Tab
  | .names => (.told (nmT t), tabs ++ [t])
  | .undo => match tabs with
    | [] => (.undo, [] ++ [t])
    | a :: r => (.told "ok", a :: r)
  | .new n => (.told "ok", tabs ++ [t] ++ [ptT t n []])
  | .drop n => onT tabs t n fun _ => (.told "ok", tabs ++ [t] ++ [dpT t n])
  | .load n ns => onT tabs t n fun rows => match parB rows.length ns with
    | true => (.told (nT rows.length), tabs ++ [t] ++ [ptT t n (rows ++ [ns])])
    | false => (.bad, tabs ++ [t])
  | .ask n x p => onT tabs t n fun rows => match decide (x < rows.length ∧ p < rows.length) with
    | true => (.told (yn (toldM (runM rows).trip x p)), tabs ++ [t])
    | false => (.kind, tabs ++ [t])
  | .given n x => onT tabs t n fun rows => match decide (x < rows.length) with
    | true => (.told (givM ((runM rows).trip.getD x (0, 0, []))), tabs ++ [t])
    | false => (.kind, tabs ++ [t])
  | .sho n => onT tabs t n fun rows => (.told (shT rows), tabs ++ [t])
  | .width n => onT tabs t n fun rows => (.told (wT rows), tabs ++ [t])
  | .slots n => onT tabs t n fun rows => (.told (slT rows), tabs ++ [t])
  | .groups n => onT tabs t n fun rows => (.told (grT (groupsM (runM rows).lots)), tabs ++ [t])
def TellPost (K : PySem.W.Frag) (g d : Addr) (H : Hp) (Q : VK) (E : XK) : Ans × List Tab → Prop
  | (.told s, ts) => ∀ H', But d H H' → DeskAt K g H' d ts → Q (.str s) H'
  | (.book n, ts) => ∀ H' dd, But d H H' → DeskAt K g H' d ts → H' dd = some (.xd [("name", .str n)]) → E (.ref (ga K "NoBook")) (some dd) H'
  | (.kind, ts) => ∀ H', But d H H' → DeskAt K g H' d ts → E (.ref (ga K "NoKind")) none H'
  | (.bad, ts) => ∀ H', But d H H' → DeskAt K g H' d ts → E (.ref (ga K "BadKind")) none H'
  | (.undo, ts) => ∀ H', But d H H' → DeskAt K g H' d ts → E (.ref (ga K "NothingDone")) none H'
def partsC : Cmd → List Str
  | .names => [] | .undo => [] | .new _ => ["name"] | .drop _ => ["name"] | .load _ _ => ["name", "kinds"] | .ask _ _ _ => ["name", "kind", "kind"] | .given _ _ => ["name", "kind"] | .sho _ => ["name"] | .width _ => ["name"] | .slots _ => ["name"] | .groups _ => ["name"]
theorem AllAt.one {α β : Type} {R : α → β → Prop} {x : α} {y : β} (h : R x y) : AllAt R [x] [y] := AllAt.nil.cons h
theorem deed_free {x : Str} (h : (TL.tl x).all (fun c => decide (c ≠ 32) && decide (c ≠ 10)) = true) : ∀ c ∈ TL.tl x, c ≠ 32 ∧ c ≠ 10 := fun c hc => by
  have := List.all_eq_true.mp h c hc
  rw [Bool.and_eq_true] at this
  exact ⟨of_decide_eq_true this.1, of_decide_eq_true this.2⟩
theorem ln_ok (X : Ex w K) : ∀ c : Cmd, CmdOk c → LnOk K (deedC c) (partsC c) (argsC c)
  | .names, h => ⟨X.fm_names, .nil, deed_free (by decide +kernel), by decide, by decide +kernel⟩
  | .undo, h => ⟨X.fm_undo, .nil, deed_free (by decide +kernel), by decide, by decide +kernel⟩
  | .new n, h => ⟨X.fm_new, .one (.inl ⟨rfl, h⟩), deed_free (x := "new") (by decide +kernel), by show 1 ≤ 5; decide, (show ("new" : Str).length ≤ 20 by decide +kernel)⟩
  | .drop n, h => ⟨X.fm_drop, .one (.inl ⟨rfl, h⟩), deed_free (x := "drop") (by decide +kernel), by show 1 ≤ 5; decide, (show ("drop" : Str).length ≤ 20 by decide +kernel)⟩
  | .load n ns, h => ⟨X.fm_load, (AllAt.one (.inr (.inl ⟨rfl, ns, rfl, h.2⟩))).cons (.inl ⟨rfl, h.1⟩), deed_free (x := "load") (by decide +kernel), by show 2 ≤ 5; decide, (show ("load" : Str).length ≤ 20 by decide +kernel)⟩
  | .ask n x p, h => ⟨X.fm_ask, ((AllAt.one (.inr (.inr ⟨rfl, p, rfl, h.2.2⟩))).cons (.inr (.inr ⟨rfl, x, rfl, h.2.1⟩))).cons (.inl ⟨rfl, h.1⟩), deed_free (x := "ask") (by decide +kernel), by show 3 ≤ 5; decide, (show ("ask" : Str).length ≤ 20 by decide +kernel)⟩
  | .given n x, h => ⟨X.fm_given, (AllAt.one (.inr (.inr ⟨rfl, x, rfl, h.2⟩))).cons (.inl ⟨rfl, h.1⟩), deed_free (x := "given") (by decide +kernel), by show 2 ≤ 5; decide, (show ("given" : Str).length ≤ 20 by decide +kernel)⟩
  | .sho n, h => ⟨X.fm_show, .one (.inl ⟨rfl, h⟩), deed_free (x := "show") (by decide +kernel), by show 1 ≤ 5; decide, (show ("show" : Str).length ≤ 20 by decide +kernel)⟩
  | .width n, h => ⟨X.fm_width, .one (.inl ⟨rfl, h⟩), deed_free (x := "width") (by decide +kernel), by show 1 ≤ 5; decide, (show ("width" : Str).length ≤ 20 by decide +kernel)⟩
  | .slots n, h => ⟨X.fm_slots, .one (.inl ⟨rfl, h⟩), deed_free (x := "slots") (by decide +kernel), by show 1 ≤ 5; decide, (show ("slots" : Str).length ≤ 20 by decide +kernel)⟩
  | .groups n, h => ⟨X.fm_groups, .one (.inl ⟨rfl, h⟩), deed_free (x := "groups") (by decide +kernel), by show 1 ≤ 5; decide, (show ("groups" : Str).length ≤ 20 by decide +kernel)⟩
/-! ### a call of a local name, defs of two kinds -/
theorem DefOk.wide {k : Nat} {f : Addr} {ps : List Str} {sp : Sp} {CX : CXT} (D : DefOk P w K mg base CX0 k f ps sp) : DefOk P w K mg base CX k f ps sp := by
  obtain ⟨fd, F, b, z⟩ := D.ex
  refine ⟨fd, ⟨F.len, fun A outer s H args us vs Q E hr e hb r h => ?_⟩, b, z⟩
  refine codeAny_mono (F.run A outer s H args us vs Q E hr e hb r h) fun r s' q => ?_
  cases r with
  | ok f => cases f <;> exact q
  | error e => exact q.elim
theorem pe_calL {X : Cx} {CX : CXT} {k i : Nat} {f : Addr} {ps : List Str} {sp : Sp} {E : XK} {x : Str} {p pos : Pos} {e : Expr} {es : List Expr} {t : TA} (D : DefX X CX k f ps sp) (hr : Room k X.A) (hN : X.N[i]? = some x) (hv : Vis X.env.scope x) (hx : Passes CX X E) (ha : PA X (e :: es) t)
    (hdb : (x == ("__debug__" : Str)) = false := by decide) (hcd : (x == ("__classdict__" : Str)) = false := by decide)
    (he : starEach (e :: es) X.env = (false, eval e X.env) :: starEach es X.env := by rfl) (hpl : (backTo pos (starEach es X.env)).any (·.1) = false := by rfl) : PE X (.Call (.Name x p) (e :: es) [] pos) (cCallL i f sp E t) := by
  obtain ⟨fd, F, b, z⟩ := D.ex
  have q := pe_callL (p := p) (pos := pos) F hr hN hv z b .nil hx ha hdb hcd he hpl
  have e : tCallL i f sp [] E t = cCallL i f sp E t := by
    funext σ H Q
    unfold tCallL cCallL
    simp only [List.append_nil]
  rw [e] at q
  exact q
def spTell (K : PySem.W.Frag) : Sp := fun vs H Q E => ∃ (d g : Addr) (o : HO) (tabs : List Tab) (t : Tab) (c : Cmd), vs = [.ref d, .str (lineT (deedC c :: argsC c))] ∧ DeskAt K g H d (tabs ++ [t]) ∧ TsOk (tabs ++ [t]) ∧ CmdOk c ∧ H g = some o ∧ TellPost K g d H Q E (tellM tabs t c)
theorem ts_last {tabs : List Tab} {t : Tab} (h : TsOk (tabs ++ [t])) : t.length ≤ tabs.length ∧ tabs.length ≤ 54 ∧ ∀ e ∈ t, NameOk e.1 ∧ WfR e.2 := by
  refine ⟨h.each tabs.length t (by rw [List.getElem?_append_right (Nat.le_refl _), Nat.sub_self]; rfl), ?_, fun e m => h.ok t (by simp) e m⟩
  have := h.few
  rw [List.length_append] at this
  have : tabs.length + 1 ≤ 55 := this
  omega
theorem ok_Desk_tell (PO : ProgOk P) (T : Tx K mg) (F : Fx K) (X : Ex w K) : DefOk P w K mg base (L2.CX P w) 9 (ma K (ga K "Desk") "tell") ["self", "line"] (spTell K) := by
  have DW := ok_words_of (P := P) (base := base) T F X
  have DN := ok_Desk_all_names (P := P) (w := w) (base := base) T F
  have DU := ok_Desk_undo (base := base) PO T F X
  have DD := ok_Desk_done (P := P) (w := w) (base := base) T F
  have DI := ok_Runtime_init (P := P) (w := w) (base := base) T F
  have DC := ok_Runtime_copy (P := P) (w := w) (base := base) T F
  have DL := ok_Runtime_load (base := base) PO T F X
  have DB := ok_numbers_of (P := P) (w := w) (base := base) T F
  have nd := sc_Desk_tell.nd
  refine def_ok F.f_Desk_tell bd_Desk_tell sc_Desk_tell (fun vs H Q E h => ?_) (fun cdv A outer s0 H vs Q E hr h => ?_)
  · obtain ⟨d, g, o, tabs, t, c, rfl, _⟩ := h
    rfl
  obtain ⟨d, g, o, tabs, t, c, rfl, Dk, TS, cok, hg, k⟩ := h
  obtain ⟨tl1, tl2, tl3⟩ := ts_last TS
  obtain ⟨es, nn, KD⟩ := X.ka
  cases c with
  | names =>
    refine ⟨_, pss_cut (ps_set (i := 2) nd rfl (Or.inl rfl) (pe_cal (DW.mono (by decide : 4 ≤ 8)) hr (by rfl) T.g_words_of pass0 (pa_cons (pv 1) pa_nil)))
      (pss_cut (ps_set (i := 3) nd rfl (Or.inl rfl) (pe_ix ix_list (pv 2) pe_int (fun _ _ => rfl)))
      (pss_cons (ps_if (pt_cmpR op_eq (pv 3) pe_str (nomark _)) (pss_one (ps_ret (pe_met0 (pv 0) T.c_Desk T.m_Desk_all_names (DN.mono (by decide : 1 ≤ 8)) hr pass0))) pss_nil) pss_never)), ?_⟩
    refine ⟨fun σ H' => ∃ l, σ = [some (.ref d), some (.str (lineT (deedC .names :: argsC .names))), some (.ref l), none, none, none, none, none] ∧ Same H H' ∧ LS H' l (deedC .names :: argsC .names), ⟨_, rfl, _, _, _, rfl, ln_ok X _ cok, fun l H1 e1 h1 => ⟨l, rfl, e1, h1⟩⟩, ?_⟩
    rintro σ H1 ⟨l, rfl, e1, h1⟩
    refine ⟨fun σ H' => σ = [some (.ref d), some (.str (lineT (deedC .names :: argsC .names))), some (.ref l), some (.str (deedC .names)), none, none, none, none] ∧ H1 = H', ⟨_, rfl, l, _, 0, _, rfl, rfl, .of h1, atI_nat (j := 0) rfl, rfl, rfl⟩, ?_⟩
    rintro σ _ ⟨rfl, rfl⟩
    have D1 := Dk.same e1
    refine ⟨_, rfl, rfl, true, (show V.bl (decide (V.str ("names" : Str) = V.str ("names" : Str))) = V.bl true by decide +kernel), ?_⟩
    refine iteT (B := True) ?_
    obtain ⟨dx, p, as, q1, q2, q3⟩ := id D1
    exact ⟨_, rfl, d, dx, _, rfl, q1, rfl, d, g, tabs, t, rfl, D1, by omega, fun e m => (tl3 e m).1, fun H' e => k H' (fun b o n h => e b o (e1 b o h)) (D1.same e)⟩
  | undo =>
    refine ⟨_, pss_cut (ps_set (i := 2) nd rfl (Or.inl rfl) (pe_cal (DW.mono (by decide : 4 ≤ 8)) hr (by rfl) T.g_words_of pass0 (pa_cons (pv 1) pa_nil)))
      (pss_cut (ps_set (i := 3) nd rfl (Or.inl rfl) (pe_ix ix_list (pv 2) pe_int (fun _ _ => rfl)))
(pss_cons (ps_if (pt_cmpR op_eq (pv 3) pe_str (nomark _)) pss_never pss_nil)
      (pss_cons (ps_if (pt_cmpR op_eq (pv 3) pe_str (nomark _)) (pss_one (ps_ret (pe_met0 (E := E) (pv 0) T.c_Desk T.m_Desk_undo (DU.mono (by decide : 2 ≤ 8)) hr (passes_call (takes_of rfl rfl rfl rfl) (fun _ _ _ _ h => h))))) pss_nil) pss_never))), ?_⟩
    refine ⟨fun σ H' => ∃ l, σ = [some (.ref d), some (.str (lineT (deedC .undo :: argsC .undo))), some (.ref l), none, none, none, none, none] ∧ Same H H' ∧ LS H' l (deedC .undo :: argsC .undo), ⟨_, rfl, _, _, _, rfl, ln_ok X _ cok, fun l H1 e1 h1 => ⟨l, rfl, e1, h1⟩⟩, ?_⟩
    rintro σ H1 ⟨l, rfl, e1, h1⟩
    refine ⟨fun σ H' => σ = [some (.ref d), some (.str (lineT (deedC .undo :: argsC .undo))), some (.ref l), some (.str (deedC .undo)), none, none, none, none] ∧ H1 = H', ⟨_, rfl, l, _, 0, _, rfl, rfl, .of h1, atI_nat (j := 0) rfl, rfl, rfl⟩, ?_⟩
    rintro σ _ ⟨rfl, rfl⟩
    have D1 := Dk.same e1
    refine ⟨_, rfl, rfl, false, (show V.bl (decide (V.str ("undo" : Str) = V.str ("names" : Str))) = V.bl false by decide +kernel), ?_⟩
    refine iteF (A := True) ?_
    refine ⟨_, rfl, rfl, true, (show V.bl (decide (V.str ("undo" : Str) = V.str ("undo" : Str))) = V.bl true by decide +kernel), ?_⟩
    refine iteT (B := True) ?_
    obtain ⟨dx, p, as, q1, q2, q3⟩ := id D1
    refine ⟨_, rfl, d, dx, _, rfl, q1, rfl, d, g, tabs, t, rfl, D1, fun h0 => ?_, fun h0 H' b Dk' => ?_⟩
    · subst h0
      exact k H1 (fun b o n h => e1 b o h) D1
    · cases tabs with
      | nil => exact absurd rfl h0
      | cons a r => exact k H' (fun x o n h => b x o n (e1 x o h)) Dk'
  | new n =>
    refine ⟨_, pss_cut (ps_set (i := 2) nd rfl (Or.inl rfl) (pe_cal (DW.mono (by decide : 4 ≤ 8)) hr (by rfl) T.g_words_of pass0 (pa_cons (pv 1) pa_nil)))
      (pss_cut (ps_set (i := 3) nd rfl (Or.inl rfl) (pe_ix ix_list (pv 2) pe_int (fun _ _ => rfl)))
(pss_cons (ps_if (pt_cmpR op_eq (pv 3) pe_str (nomark _)) pss_never pss_nil)
      (pss_cons (ps_if (pt_cmpR op_eq (pv 3) pe_str (nomark _)) pss_never pss_nil)
      (pss_cut (ps_set (i := 4) nd rfl (Or.inl rfl) (pe_callTy call_dictD (by rfl) T.b_dict (by decide +kernel) (pa_cons (pe_ix ix_tup (pe_fld (pv 0) (by rfl)) (pe_un un_neg pe_int) (fun _ _ => rfl)) pa_nil)))
      (pss_cons (ps_if (pt_cmpR op_eq (pv 3) pe_str (nomark _)) (pss_cons (ps_dput (hu_of hr) (pv 4) (pe_ix ix_list (pv 2) pe_int (fun _ _ => rfl)) (pe_mak0 T.k_Runtime (DI.mono (by decide : 6 ≤ 7)) hr (by rfl) T.g_Runtime pass0) (by rfl)) (pss_one (ps_ret (pe_met (pv 0) T.c_Desk T.m_Desk_done (DD.mono (by decide : 1 ≤ 8)) hr pass0 (pa_cons (pv 4) (pa_cons pe_str pa_nil)))))) pss_nil) pss_never))))), ?_⟩
    refine ⟨fun σ H' => ∃ l, σ = [some (.ref d), some (.str (lineT (deedC (.new n) :: argsC (.new n)))), some (.ref l), none, none, none, none, none] ∧ Same H H' ∧ LS H' l (deedC (.new n) :: argsC (.new n)), ⟨_, rfl, _, _, _, rfl, ln_ok X _ cok, fun l H1 e1 h1 => ⟨l, rfl, e1, h1⟩⟩, ?_⟩
    rintro σ H1 ⟨l, rfl, e1, h1⟩
    refine ⟨fun σ H' => σ = [some (.ref d), some (.str (lineT (deedC (.new n) :: argsC (.new n)))), some (.ref l), some (.str (deedC (.new n))), none, none, none, none] ∧ H1 = H', ⟨_, rfl, l, _, 0, _, rfl, rfl, .of h1, atI_nat (j := 0) rfl, rfl, rfl⟩, ?_⟩
    rintro σ _ ⟨rfl, rfl⟩
    have D1 := Dk.same e1
    refine ⟨_, rfl, rfl, false, (show V.bl (decide (V.str ("new" : Str) = V.str ("names" : Str))) = V.bl false by decide +kernel), ?_⟩
    refine iteF (A := True) ?_
    refine ⟨_, rfl, rfl, false, (show V.bl (decide (V.str ("new" : Str) = V.str ("undo" : Str))) = V.bl false by decide +kernel), ?_⟩
    refine iteF (A := True) ?_
    obtain ⟨dx, tp, as, q1, q2, q3⟩ := id D1
    obtain ⟨as', a, rfl, q4, kvs, q5, q6⟩ := q3.last
    refine ⟨fun σ H' => ∃ tb, σ = [some (.ref d), some (.str (lineT (deedC (.new n) :: argsC (.new n)))), some (.ref l), some (.str (deedC (.new n))), some (.ref tb), none, none, none] ∧ Same H1 H' ∧ H1 tb = none ∧ H' tb = some (.dK kvs), ⟨_, rfl, d, _, dx, _, _, rfl, q1, T.c_Desk, T.n_Desk_tables, rfl, _, rfl, tp, _, _, _, rfl, rfl, .of q2, last_ref as' a, a, kvs, rfl, .of q5, fun tb htb => ⟨tb, rfl, Same.new htb, htb, upd_same⟩⟩, ?_⟩
    rintro σ H2 ⟨tb, rfl, e2, htb, ht2⟩
    have q6' : AllAt (EnT (RunV K g H2)) kvs t := q6.imp fun kv en ⟨u, r, v, z⟩ => ⟨u, r, v, z.same e2⟩
    have D2 := D1.same e2
    have l2' : LS H2 l (deedC (.new n) :: argsC (.new n)) := e2 _ _ h1
    have tbd : tb ≠ d := (ne_of_none q1 htb).symm
    refine ⟨_, rfl, rfl, true, (show V.bl (decide (V.str ("new" : Str) = V.str ("new" : Str))) = V.bl true by decide +kernel), ?_⟩
    refine iteT (B := True) ?_
    refine fun x dx1 hx hdx hn => ⟨x, dx1, g, o, rfl, upd_same, mk_ins0 hx hdx hn _ _ (e2 _ _ (e1 _ _ hg)), fun H3 bt R1 _ => ⟨rfl, ?_⟩⟩
    have e3 : Same H2 H3 := mk_ins hx hdx hn bt
    have ht3 := e3 _ _ ht2
    refine ⟨_, rfl, _, rfl, l, _, 1, _, rfl, rfl, .of (e3 _ _ l2'), atI_nat (j := 1) rfl, tb, _, rfl, DPut.k (k := .inr n) (v := .ref x) ht3 (small1000 (by rw [q6.1]; omega)), ?_⟩
    have S3 : Same H1 (upd H3 tb (.dK (putK kvs (.inr n) (.ref x)))) := same_upd htb (e2.trans e3)
    have D3 := D1.same S3
    have T3 : TabAt K g (upd H3 tb (.dK (putK kvs (.inr n) (.ref x)))) tb (ptT t n []) := by
      refine ⟨_, upd_same, tab_put (q6.imp fun kv en ⟨u, r, v, z⟩ => ⟨u, r, v, z.same S3⟩) n ⟨x, rfl, R1.pe (pz_dict ht3)⟩⟩
    obtain ⟨dx', p', as3, w1, w2, w3⟩ := id D3
    refine ⟨_, rfl, d, dx', _, rfl, w1, rfl, _, rfl, d, tb, g, "ok", _, _, rfl, D3, T3, by rw [List.length_append]; show tabs.length + 1 ≤ 100; omega, fun H' b Dk' => ?_⟩
    exact k H' (fun y u ny h => b y u ny (S3 y u (e1 y u h))) Dk'
  | drop n =>
    refine ⟨_, pss_cut (ps_set (i := 2) nd rfl (Or.inl rfl) (pe_cal (DW.mono (by decide : 4 ≤ 8)) hr (by rfl) T.g_words_of pass0 (pa_cons (pv 1) pa_nil)))
      (pss_cut (ps_set (i := 3) nd rfl (Or.inl rfl) (pe_ix ix_list (pv 2) pe_int (fun _ _ => rfl)))
(pss_cons (ps_if (pt_cmpR op_eq (pv 3) pe_str (nomark _)) pss_never pss_nil)
      (pss_cons (ps_if (pt_cmpR op_eq (pv 3) pe_str (nomark _)) pss_never pss_nil)
      (pss_cut (ps_set (i := 4) nd rfl (Or.inl rfl) (pe_callTy call_dictD (by rfl) T.b_dict (by decide +kernel) (pa_cons (pe_ix ix_tup (pe_fld (pv 0) (by rfl)) (pe_un un_neg pe_int) (fun _ _ => rfl)) pa_nil)))
      (pss_cons (ps_if (pt_cmpR op_eq (pv 3) pe_str (nomark _)) pss_never pss_nil)
      (pss_cons (ps_if (pt_cmp (pc_dnotin (hu_of hr) (pe_ix ix_list (pv 2) pe_int (fun _ _ => rfl)) (pv 4))) (pss_one (ps_raise rfl (takes_of rfl rfl rfl rfl) (pmk_sup1 X.ex_NoBook X.nb (by rfl) ⟨T.b_super, PO.f, PO.t⟩ hr (by rfl) T.g_NoBook (pa_cons (pe_ix ix_list (pv 2) pe_int (fun _ _ => rfl)) pa_nil)))) pss_nil)
      (pss_cons (ps_if (pt_cmpR op_eq (pv 3) pe_str (nomark _)) (pss_cons (ps_expr (pe_dpop1 (pv 4) (pe_ix ix_list (pv 2) pe_int (fun _ _ => rfl)) ⟨rfl, rfl, rfl, rfl⟩)) (pss_one (ps_ret (pe_met (pv 0) T.c_Desk T.m_Desk_done (DD.mono (by decide : 1 ≤ 8)) hr pass0 (pa_cons (pv 4) (pa_cons pe_str pa_nil)))))) pss_nil) pss_never))))))), ?_⟩
    refine ⟨fun σ H' => ∃ l, σ = [some (.ref d), some (.str (lineT (deedC (.drop n) :: argsC (.drop n)))), some (.ref l), none, none, none, none, none] ∧ Same H H' ∧ LS H' l (deedC (.drop n) :: argsC (.drop n)), ⟨_, rfl, _, _, _, rfl, ln_ok X _ cok, fun l H1 e1 h1 => ⟨l, rfl, e1, h1⟩⟩, ?_⟩
    rintro σ H1 ⟨l, rfl, e1, h1⟩
    refine ⟨fun σ H' => σ = [some (.ref d), some (.str (lineT (deedC (.drop n) :: argsC (.drop n)))), some (.ref l), some (.str (deedC (.drop n))), none, none, none, none] ∧ H1 = H', ⟨_, rfl, l, _, 0, _, rfl, rfl, .of h1, atI_nat (j := 0) rfl, rfl, rfl⟩, ?_⟩
    rintro σ _ ⟨rfl, rfl⟩
    have D1 := Dk.same e1
    refine ⟨_, rfl, rfl, false, (show V.bl (decide (V.str ("drop" : Str) = V.str ("names" : Str))) = V.bl false by decide +kernel), ?_⟩
    refine iteF (A := True) ?_
    refine ⟨_, rfl, rfl, false, (show V.bl (decide (V.str ("drop" : Str) = V.str ("undo" : Str))) = V.bl false by decide +kernel), ?_⟩
    refine iteF (A := True) ?_
    obtain ⟨dx, tp, as, q1, q2, q3⟩ := id D1
    obtain ⟨as', a, rfl, q4, kvs, q5, q6⟩ := q3.last
    refine ⟨fun σ H' => ∃ tb, σ = [some (.ref d), some (.str (lineT (deedC (.drop n) :: argsC (.drop n)))), some (.ref l), some (.str (deedC (.drop n))), some (.ref tb), none, none, none] ∧ Same H1 H' ∧ H1 tb = none ∧ H' tb = some (.dK kvs), ⟨_, rfl, d, _, dx, _, _, rfl, q1, T.c_Desk, T.n_Desk_tables, rfl, _, rfl, tp, _, _, _, rfl, rfl, .of q2, last_ref as' a, a, kvs, rfl, .of q5, fun tb htb => ⟨tb, rfl, Same.new htb, htb, upd_same⟩⟩, ?_⟩
    rintro σ H2 ⟨tb, rfl, e2, htb, ht2⟩
    have q6' : AllAt (EnT (RunV K g H2)) kvs t := q6.imp fun kv en ⟨u, r, v, z⟩ => ⟨u, r, v, z.same e2⟩
    have D2 := D1.same e2
    have l2' : LS H2 l (deedC (.drop n) :: argsC (.drop n)) := e2 _ _ h1
    have tbd : tb ≠ d := (ne_of_none q1 htb).symm
    refine ⟨_, rfl, rfl, false, (show V.bl (decide (V.str ("drop" : Str) = V.str ("new" : Str))) = V.bl false by decide +kernel), ?_⟩
    refine iteF (A := True) ?_
    refine ⟨_, rfl, l, _, 1, _, rfl, rfl, .of l2', atI_nat (j := 1) rfl, _, rfl, tb, _, rfl, DGet.k (k := .inr n) ht2, _, rfl, ?_⟩
    obtain ⟨f1, f2⟩ | ⟨rows, v, f1, f2, r, rfl, Rr⟩ := tab_val q6' n
    · rw [f2]
      refine iteT (B := True) ?_
      refine ⟨_, rfl, l, _, 1, _, rfl, rfl, .of l2', atI_nat (j := 1) rfl, _, rfl, fun dd hdd => ?_⟩
      have k : TellPost K g d H Q E (tellM tabs t (.drop n)) := k
      simp only [tellM, onT, f1] at k
      have S3 : Same H2 (upd H2 dd (.xd [(("name" : Str), V.str n)])) := Same.new hdd
      exact k _ dd (fun y u ny h => S3 y u (e2 y u (e1 y u h))) (D2.same S3) upd_same
    · rw [f2]
      refine iteF (A := True) ?_
      refine ⟨_, rfl, rfl, true, (show V.bl (decide (V.str ("drop" : Str) = V.str ("drop" : Str))) = V.bl true by decide +kernel), ?_⟩
      refine iteT (B := True) ?_
      refine ⟨_, rfl, tb, rfl, .inl ⟨kvs, .of ht2⟩, _, rfl, l, _, 1, _, rfl, rfl, .of l2', atI_nat (j := 1) rfl, kvs, .inr n, _, ht2, rfl, f2, ?_⟩
      have k : TellPost K g d H Q E (tellM tabs t (.drop n)) := k
      simp only [tellM, onT, f1] at k
      have S3 : Same H1 (upd H2 tb (.dK (dropK kvs (.inr n)))) := same_upd htb e2
      have D3 := D1.same S3
      have T3 : TabAt K g (upd H2 tb (.dK (dropK kvs (.inr n)))) tb (dpT t n) := ⟨_, upd_same, tab_drop (q6.imp fun kv en ⟨u, r, v, z⟩ => ⟨u, r, v, z.same S3⟩) n⟩
      obtain ⟨dx', p', as3, w1, w2, w3⟩ := id D3
      refine ⟨_, rfl, d, dx', _, rfl, w1, rfl, _, rfl, d, tb, g, "ok", _, _, rfl, D3, T3, by rw [List.length_append]; show tabs.length + 1 ≤ 100; omega, fun H' b Dk' => ?_⟩
      exact k H' (fun y u ny h => b y u ny (S3 y u (e1 y u h))) Dk'
  | load n ns =>
    refine ⟨_, pss_cut (ps_set (i := 2) nd rfl (Or.inl rfl) (pe_cal (DW.mono (by decide : 4 ≤ 8)) hr (by rfl) T.g_words_of pass0 (pa_cons (pv 1) pa_nil)))
      (pss_cut (ps_set (i := 3) nd rfl (Or.inl rfl) (pe_ix ix_list (pv 2) pe_int (fun _ _ => rfl)))
(pss_cons (ps_if (pt_cmpR op_eq (pv 3) pe_str (nomark _)) pss_never pss_nil)
      (pss_cons (ps_if (pt_cmpR op_eq (pv 3) pe_str (nomark _)) pss_never pss_nil)
      (pss_cut (ps_set (i := 4) nd rfl (Or.inl rfl) (pe_callTy call_dictD (by rfl) T.b_dict (by decide +kernel) (pa_cons (pe_ix ix_tup (pe_fld (pv 0) (by rfl)) (pe_un un_neg pe_int) (fun _ _ => rfl)) pa_nil)))
      (pss_cons (ps_if (pt_cmpR op_eq (pv 3) pe_str (nomark _)) pss_never pss_nil)
      (pss_cons (ps_if (pt_cmp (pc_dnotin (hu_of hr) (pe_ix ix_list (pv 2) pe_int (fun _ _ => rfl)) (pv 4))) (pss_one (ps_raise rfl (takes_of rfl rfl rfl rfl) (pmk_sup1 X.ex_NoBook X.nb (by rfl) ⟨T.b_super, PO.f, PO.t⟩ hr (by rfl) T.g_NoBook (pa_cons (pe_ix ix_list (pv 2) pe_int (fun _ _ => rfl)) pa_nil)))) pss_nil)
      (pss_cons (ps_if (pt_cmpR op_eq (pv 3) pe_str (nomark _)) pss_never pss_nil)
      (pss_cut (ps_set (i := 5) nd rfl (Or.inl rfl) (pe_met0 (pe_dget (hu_of hr) (pv 4) (pe_ix ix_list (pv 2) pe_int (fun _ _ => rfl)) (fun _ _ => rfl)) T.c_Runtime T.m_Runtime_copy DC hr pass0))
      (pss_cons (ps_if (pt_cmpR op_eq (pv 3) pe_str (nomark _)) (pss_cons (ps_set (i := 6) nd rfl (Or.inl rfl) (pe_met (E := E) (pv 5) T.c_Runtime T.m_Runtime_load (DL.mono (by decide : 7 ≤ 8)) hr (passes_call (takes_of rfl rfl rfl rfl) (fun _ _ _ _ h => h)) (pa_cons (pe_cal (DB.mono (by decide : 1 ≤ 8)) hr (by rfl) T.g_numbers_of pass0 (pa_cons (pe_ix ix_list (pv 2) pe_int (fun _ _ => rfl)) pa_nil)) pa_nil))) (pss_cons (ps_dput (hu_of hr) (pv 4) (pe_ix ix_list (pv 2) pe_int (fun _ _ => rfl)) (pv 5) (by rfl)) (pss_one (ps_ret (pe_met (pv 0) T.c_Desk T.m_Desk_done (DD.mono (by decide : 1 ≤ 8)) hr pass0 (pa_cons (pv 4) (pa_cons (pe_callTy call_str_int (by rfl) T.b_str (by decide +kernel) (pa_cons (pv 6) pa_nil)) pa_nil))))))) pss_nil) pss_never))))))))), ?_⟩
    refine ⟨fun σ H' => ∃ l, σ = [some (.ref d), some (.str (lineT (deedC (.load n ns) :: argsC (.load n ns)))), some (.ref l), none, none, none, none, none] ∧ Same H H' ∧ LS H' l (deedC (.load n ns) :: argsC (.load n ns)), ⟨_, rfl, _, _, _, rfl, ln_ok X _ cok, fun l H1 e1 h1 => ⟨l, rfl, e1, h1⟩⟩, ?_⟩
    rintro σ H1 ⟨l, rfl, e1, h1⟩
    refine ⟨fun σ H' => σ = [some (.ref d), some (.str (lineT (deedC (.load n ns) :: argsC (.load n ns)))), some (.ref l), some (.str (deedC (.load n ns))), none, none, none, none] ∧ H1 = H', ⟨_, rfl, l, _, 0, _, rfl, rfl, .of h1, atI_nat (j := 0) rfl, rfl, rfl⟩, ?_⟩
    rintro σ _ ⟨rfl, rfl⟩
    have D1 := Dk.same e1
    refine ⟨_, rfl, rfl, false, (show V.bl (decide (V.str ("load" : Str) = V.str ("names" : Str))) = V.bl false by decide +kernel), ?_⟩
    refine iteF (A := True) ?_
    refine ⟨_, rfl, rfl, false, (show V.bl (decide (V.str ("load" : Str) = V.str ("undo" : Str))) = V.bl false by decide +kernel), ?_⟩
    refine iteF (A := True) ?_
    obtain ⟨dx, tp, as, q1, q2, q3⟩ := id D1
    obtain ⟨as', a, rfl, q4, kvs, q5, q6⟩ := q3.last
    refine ⟨fun σ H' => ∃ tb, σ = [some (.ref d), some (.str (lineT (deedC (.load n ns) :: argsC (.load n ns)))), some (.ref l), some (.str (deedC (.load n ns))), some (.ref tb), none, none, none] ∧ Same H1 H' ∧ H1 tb = none ∧ H' tb = some (.dK kvs), ⟨_, rfl, d, _, dx, _, _, rfl, q1, T.c_Desk, T.n_Desk_tables, rfl, _, rfl, tp, _, _, _, rfl, rfl, .of q2, last_ref as' a, a, kvs, rfl, .of q5, fun tb htb => ⟨tb, rfl, Same.new htb, htb, upd_same⟩⟩, ?_⟩
    rintro σ H2 ⟨tb, rfl, e2, htb, ht2⟩
    have q6' : AllAt (EnT (RunV K g H2)) kvs t := q6.imp fun kv en ⟨u, r, v, z⟩ => ⟨u, r, v, z.same e2⟩
    have D2 := D1.same e2
    have l2' : LS H2 l (deedC (.load n ns) :: argsC (.load n ns)) := e2 _ _ h1
    have tbd : tb ≠ d := (ne_of_none q1 htb).symm
    refine ⟨_, rfl, rfl, false, (show V.bl (decide (V.str ("load" : Str) = V.str ("new" : Str))) = V.bl false by decide +kernel), ?_⟩
    refine iteF (A := True) ?_
    refine ⟨_, rfl, l, _, 1, _, rfl, rfl, .of l2', atI_nat (j := 1) rfl, _, rfl, tb, _, rfl, DGet.k (k := .inr n) ht2, _, rfl, ?_⟩
    obtain ⟨f1, f2⟩ | ⟨rows, v, f1, f2, r, rfl, Rr⟩ := tab_val q6' n
    · rw [f2]
      refine iteT (B := True) ?_
      refine ⟨_, rfl, l, _, 1, _, rfl, rfl, .of l2', atI_nat (j := 1) rfl, _, rfl, fun dd hdd => ?_⟩
      have k : TellPost K g d H Q E (tellM tabs t (.load n ns)) := k
      simp only [tellM, onT, f1] at k
      have S3 : Same H2 (upd H2 dd (.xd [(("name" : Str), V.str n)])) := Same.new hdd
      exact k _ dd (fun y u ny h => S3 y u (e2 y u (e1 y u h))) (D2.same S3) upd_same
    · rw [f2]
      refine iteF (A := True) ?_
      refine ⟨_, rfl, rfl, false, (show V.bl (decide (V.str ("load" : Str) = V.str ("drop" : Str))) = V.bl false by decide +kernel), ?_⟩
      refine iteF (A := True) ?_
      obtain ⟨rdx, rp, rs, rss, r1, _⟩ := id Rr
      refine ⟨fun σ H' => ∃ r', σ = [some (.ref d), some (.str (lineT (deedC (.load n ns) :: argsC (.load n ns)))), some (.ref l), some (.str (deedC (.load n ns))), some (.ref tb), some (.ref r'), none, none] ∧ Same H2 H' ∧ H2 r' = none ∧ RunAt K g H' r' rows, ⟨_, rfl, _, rfl, l, _, 1, _, rfl, rfl, .of l2', atI_nat (j := 1) rfl, tb, _, rfl, (show DGet H2 tb (kV (.inr n)) (some (.ref r)) by rw [← f2]; exact DGet.k ht2), r, rdx, _, rfl, r1, rfl, r, g, rows, o, rfl, Rr, e2 _ _ (e1 _ _ hg), fun r' H3 e3 h3 R3 => ⟨r', rfl, e3, h3, R3⟩⟩, ?_⟩
      rintro σ H3 ⟨r', rfl, e3, hr3, R3⟩
      have D3 := D2.same e3
      have l3 : LS H3 l (deedC (.load n ns) :: argsC (.load n ns)) := e3 _ _ l2'
      have wf : WfR rows := (tl3 _ (lkT_mem f1)).2
      have wl := wf.len
      refine ⟨_, rfl, rfl, true, (show V.bl (decide (V.str ("load" : Str) = V.str ("load" : Str))) = V.bl true by decide +kernel), ?_⟩
      refine iteT (B := True) ?_
      obtain ⟨cdx, cp, cs, css, c1, _⟩ := id R3
      have k : TellPost K g d H Q E (tellM tabs t (.load n ns)) := k
      simp only [tellM, onT, f1] at k
      refine ⟨_, rfl, r', cdx, _, rfl, c1, rfl, _, rfl, l, _, 2, _, rfl, rfl, .of l3, atI_nat (j := 2) rfl, ns, rfl, cok.2, fun na H4 e4 n4 => ?_⟩
      have R4 := R3.same e4
      have D4 := D3.same e4
      refine ⟨r', na, g, o, rows, ns, rfl, R4, n4, Nat.le_trans cok.2.1 (by decide), by omega, e4 _ _ (e3 _ _ (e2 _ _ (e1 _ _ hg))), fun hb H5 b5 R5 => ?_, fun hb => ?_⟩
      · simp only [hb] at k
        have e5 : Same H2 H5 := But.same hr3 (e3.trans e4) b5
        have ht5 := e5 _ _ ht2
        refine ⟨_, rfl, _, rfl, _, rfl, l, _, 1, _, rfl, rfl, .of (e5 _ _ l2'), atI_nat (j := 1) rfl, tb, _, rfl, DPut.k (k := .inr n) (v := .ref r') ht5 (small1000 (by rw [q6.1]; omega)), ?_⟩
        have S6 : Same H1 (upd H5 tb (.dK (putK kvs (.inr n) (.ref r')))) := same_upd htb (e2.trans e5)
        have D6 := D1.same S6
        have T6 : TabAt K g (upd H5 tb (.dK (putK kvs (.inr n) (.ref r')))) tb (ptT t n (rows ++ [ns])) :=
          ⟨_, upd_same, tab_put (q6.imp fun kv en ⟨u, r, v, z⟩ => ⟨u, r, v, z.same S6⟩) n ⟨r', rfl, R5.pe (pz_dict ht5)⟩⟩
        obtain ⟨dx', p', as3, w1, w2, w3⟩ := id D6
        refine ⟨_, rfl, d, dx', _, rfl, w1, rfl, _, rfl, _, rfl, _, rfl, log_small (by rw [Int.natAbs_natCast]; omega), d, tb, g, nT rows.length, _, _, rfl, D6, T6, by rw [List.length_append]; show tabs.length + 1 ≤ 100; omega, fun H' b Dk' => ?_⟩
        exact k H' (fun y u ny h => b y u ny (S6 y u (e1 y u h))) Dk'
      · simp only [hb] at k
        exact k H4 (fun y u ny h => e4 y u (e3 y u (e2 y u (e1 y u h)))) D4
  | ask n x p =>
    have DA := ok_told_ask (base := base) PO T F X
    refine ⟨_, pss_cut (ps_set (i := 2) nd rfl (Or.inl rfl) (pe_cal (DW.mono (by decide : 4 ≤ 8)) hr (by rfl) T.g_words_of pass0 (pa_cons (pv 1) pa_nil)))
      (pss_cut (ps_set (i := 3) nd rfl (Or.inl rfl) (pe_ix ix_list (pv 2) pe_int (fun _ _ => rfl)))
(pss_cons (ps_if (pt_cmpR op_eq (pv 3) pe_str (nomark _)) pss_never pss_nil)
      (pss_cons (ps_if (pt_cmpR op_eq (pv 3) pe_str (nomark _)) pss_never pss_nil)
      (pss_cut (ps_set (i := 4) nd rfl (Or.inl rfl) (pe_callTy call_dictD (by rfl) T.b_dict (by decide +kernel) (pa_cons (pe_ix ix_tup (pe_fld (pv 0) (by rfl)) (pe_un un_neg pe_int) (fun _ _ => rfl)) pa_nil)))
      (pss_cons (ps_if (pt_cmpR op_eq (pv 3) pe_str (nomark _)) pss_never pss_nil)
      (pss_cons (ps_if (pt_cmp (pc_dnotin (hu_of hr) (pe_ix ix_list (pv 2) pe_int (fun _ _ => rfl)) (pv 4))) (pss_one (ps_raise rfl (takes_of rfl rfl rfl rfl) (pmk_sup1 X.ex_NoBook X.nb (by rfl) ⟨T.b_super, PO.f, PO.t⟩ hr (by rfl) T.g_NoBook (pa_cons (pe_ix ix_list (pv 2) pe_int (fun _ _ => rfl)) pa_nil)))) pss_nil)
      (pss_cons (ps_if (pt_cmpR op_eq (pv 3) pe_str (nomark _)) pss_never pss_nil)
      (pss_cut (ps_set (i := 5) nd rfl (Or.inl rfl) (pe_met0 (pe_dget (hu_of hr) (pv 4) (pe_ix ix_list (pv 2) pe_int (fun _ _ => rfl)) (fun _ _ => rfl)) T.c_Runtime T.m_Runtime_copy DC hr pass0))
      (pss_cons (ps_if (pt_cmpR op_eq (pv 3) pe_str (nomark _)) pss_never pss_nil)
      (pss_cons (ps_set (i := 7) nd rfl (Or.inl rfl) (pe_ix ix_kdict (pe_glob (v := .ref (ga K "ANSWERS")) (by rfl) T.g_ANSWERS rfl) (pv 3) (fun _ _ => rfl)))
      (pss_one (ps_ret (pe_calL (E := E) (i := 7) (DA.mono (by decide : 5 ≤ 8)) hr rfl (Or.inl rfl) (passes_call (takes_of rfl rfl rfl rfl) (fun _ _ _ _ h => h)) (pa_cons (pv 5) (pa_cons (pv 2) pa_nil))))))))))))))), ?_⟩
    refine ⟨fun σ H' => ∃ l, σ = [some (.ref d), some (.str (lineT (deedC (.ask n x p) :: argsC (.ask n x p)))), some (.ref l), none, none, none, none, none] ∧ Same H H' ∧ LS H' l (deedC (.ask n x p) :: argsC (.ask n x p)), ⟨_, rfl, _, _, _, rfl, ln_ok X _ cok, fun l H1 e1 h1 => ⟨l, rfl, e1, h1⟩⟩, ?_⟩
    rintro σ H1 ⟨l, rfl, e1, h1⟩
    refine ⟨fun σ H' => σ = [some (.ref d), some (.str (lineT (deedC (.ask n x p) :: argsC (.ask n x p)))), some (.ref l), some (.str (deedC (.ask n x p))), none, none, none, none] ∧ H1 = H', ⟨_, rfl, l, _, 0, _, rfl, rfl, .of h1, atI_nat (j := 0) rfl, rfl, rfl⟩, ?_⟩
    rintro σ _ ⟨rfl, rfl⟩
    have D1 := Dk.same e1
    refine ⟨_, rfl, rfl, false, (show V.bl (decide (V.str ("ask" : Str) = V.str ("names" : Str))) = V.bl false by decide +kernel), ?_⟩
    refine iteF (A := True) ?_
    refine ⟨_, rfl, rfl, false, (show V.bl (decide (V.str ("ask" : Str) = V.str ("undo" : Str))) = V.bl false by decide +kernel), ?_⟩
    refine iteF (A := True) ?_
    obtain ⟨dx, tp, as, q1, q2, q3⟩ := id D1
    obtain ⟨as', a, rfl, q4, kvs, q5, q6⟩ := q3.last
    refine ⟨fun σ H' => ∃ tb, σ = [some (.ref d), some (.str (lineT (deedC (.ask n x p) :: argsC (.ask n x p)))), some (.ref l), some (.str (deedC (.ask n x p))), some (.ref tb), none, none, none] ∧ Same H1 H' ∧ H1 tb = none ∧ H' tb = some (.dK kvs), ⟨_, rfl, d, _, dx, _, _, rfl, q1, T.c_Desk, T.n_Desk_tables, rfl, _, rfl, tp, _, _, _, rfl, rfl, .of q2, last_ref as' a, a, kvs, rfl, .of q5, fun tb htb => ⟨tb, rfl, Same.new htb, htb, upd_same⟩⟩, ?_⟩
    rintro σ H2 ⟨tb, rfl, e2, htb, ht2⟩
    have q6' : AllAt (EnT (RunV K g H2)) kvs t := q6.imp fun kv en ⟨u, r, v, z⟩ => ⟨u, r, v, z.same e2⟩
    have D2 := D1.same e2
    have l2' : LS H2 l (deedC (.ask n x p) :: argsC (.ask n x p)) := e2 _ _ h1
    have tbd : tb ≠ d := (ne_of_none q1 htb).symm
    refine ⟨_, rfl, rfl, false, (show V.bl (decide (V.str ("ask" : Str) = V.str ("new" : Str))) = V.bl false by decide +kernel), ?_⟩
    refine iteF (A := True) ?_
    refine ⟨_, rfl, l, _, 1, _, rfl, rfl, .of l2', atI_nat (j := 1) rfl, _, rfl, tb, _, rfl, DGet.k (k := .inr n) ht2, _, rfl, ?_⟩
    obtain ⟨f1, f2⟩ | ⟨rows, v, f1, f2, r, rfl, Rr⟩ := tab_val q6' n
    · rw [f2]
      refine iteT (B := True) ?_
      refine ⟨_, rfl, l, _, 1, _, rfl, rfl, .of l2', atI_nat (j := 1) rfl, _, rfl, fun dd hdd => ?_⟩
      have k : TellPost K g d H Q E (tellM tabs t (.ask n x p)) := k
      simp only [tellM, onT, f1] at k
      have S3 : Same H2 (upd H2 dd (.xd [(("name" : Str), V.str n)])) := Same.new hdd
      exact k _ dd (fun y u ny h => S3 y u (e2 y u (e1 y u h))) (D2.same S3) upd_same
    · rw [f2]
      refine iteF (A := True) ?_
      refine ⟨_, rfl, rfl, false, (show V.bl (decide (V.str ("ask" : Str) = V.str ("drop" : Str))) = V.bl false by decide +kernel), ?_⟩
      refine iteF (A := True) ?_
      obtain ⟨rdx, rp, rs, rss, r1, _⟩ := id Rr
      refine ⟨fun σ H' => ∃ r', σ = [some (.ref d), some (.str (lineT (deedC (.ask n x p) :: argsC (.ask n x p)))), some (.ref l), some (.str (deedC (.ask n x p))), some (.ref tb), some (.ref r'), none, none] ∧ Same H2 H' ∧ H2 r' = none ∧ RunAt K g H' r' rows, ⟨_, rfl, _, rfl, l, _, 1, _, rfl, rfl, .of l2', atI_nat (j := 1) rfl, tb, _, rfl, (show DGet H2 tb (kV (.inr n)) (some (.ref r)) by rw [← f2]; exact DGet.k ht2), r, rdx, _, rfl, r1, rfl, r, g, rows, o, rfl, Rr, e2 _ _ (e1 _ _ hg), fun r' H3 e3 h3 R3 => ⟨r', rfl, e3, h3, R3⟩⟩, ?_⟩
      rintro σ H3 ⟨r', rfl, e3, hr3, R3⟩
      have D3 := D2.same e3
      have l3 : LS H3 l (deedC (.ask n x p) :: argsC (.ask n x p)) := e3 _ _ l2'
      have wf : WfR rows := (tl3 _ (lkT_mem f1)).2
      have wl := wf.len
      refine ⟨_, rfl, rfl, false, (show V.bl (decide (V.str ("ask" : Str) = V.str ("load" : Str))) = V.bl false by decide +kernel), ?_⟩
      refine iteF (A := True) ?_
      have k : TellPost K g d H Q E (tellM tabs t (.ask n x p)) := k
      simp only [tellM, onT, f1] at k
      have bt : ∀ H', Same H3 H' → But d H H' := fun H' e y u _ h => e y u (e3 y u (e2 y u (e1 y u h)))
      refine ⟨_, rfl, _, _, .ref (ga K "told_ask"), rfl, rfl, ⟨es, nn, _, KD.at_, KD.lit, X.an_ask, rfl⟩, rfl, _, rfl, _, rfl, ?_⟩
      have cok : NameOk n ∧ x ≤ 9 ∧ p ≤ 9 := cok
      refine ⟨r', l, g, rows, _, x, p, rfl, R3, l3, rfl, rfl, by omega, by omega, fun h => ?_, fun h => ?_⟩
      · rw [decide_eq_true h] at k
        exact k H3 (bt H3 (Same.refl _)) D3
      · rw [decide_eq_false h] at k
        exact k H3 (bt H3 (Same.refl _)) D3
  | given n x =>
    have DA := ok_told_given (base := base) PO T F X
    refine ⟨_, pss_cut (ps_set (i := 2) nd rfl (Or.inl rfl) (pe_cal (DW.mono (by decide : 4 ≤ 8)) hr (by rfl) T.g_words_of pass0 (pa_cons (pv 1) pa_nil)))
      (pss_cut (ps_set (i := 3) nd rfl (Or.inl rfl) (pe_ix ix_list (pv 2) pe_int (fun _ _ => rfl)))
(pss_cons (ps_if (pt_cmpR op_eq (pv 3) pe_str (nomark _)) pss_never pss_nil)
      (pss_cons (ps_if (pt_cmpR op_eq (pv 3) pe_str (nomark _)) pss_never pss_nil)
      (pss_cut (ps_set (i := 4) nd rfl (Or.inl rfl) (pe_callTy call_dictD (by rfl) T.b_dict (by decide +kernel) (pa_cons (pe_ix ix_tup (pe_fld (pv 0) (by rfl)) (pe_un un_neg pe_int) (fun _ _ => rfl)) pa_nil)))
      (pss_cons (ps_if (pt_cmpR op_eq (pv 3) pe_str (nomark _)) pss_never pss_nil)
      (pss_cons (ps_if (pt_cmp (pc_dnotin (hu_of hr) (pe_ix ix_list (pv 2) pe_int (fun _ _ => rfl)) (pv 4))) (pss_one (ps_raise rfl (takes_of rfl rfl rfl rfl) (pmk_sup1 X.ex_NoBook X.nb (by rfl) ⟨T.b_super, PO.f, PO.t⟩ hr (by rfl) T.g_NoBook (pa_cons (pe_ix ix_list (pv 2) pe_int (fun _ _ => rfl)) pa_nil)))) pss_nil)
      (pss_cons (ps_if (pt_cmpR op_eq (pv 3) pe_str (nomark _)) pss_never pss_nil)
      (pss_cut (ps_set (i := 5) nd rfl (Or.inl rfl) (pe_met0 (pe_dget (hu_of hr) (pv 4) (pe_ix ix_list (pv 2) pe_int (fun _ _ => rfl)) (fun _ _ => rfl)) T.c_Runtime T.m_Runtime_copy DC hr pass0))
      (pss_cons (ps_if (pt_cmpR op_eq (pv 3) pe_str (nomark _)) pss_never pss_nil)
      (pss_cons (ps_set (i := 7) nd rfl (Or.inl rfl) (pe_ix ix_kdict (pe_glob (v := .ref (ga K "ANSWERS")) (by rfl) T.g_ANSWERS rfl) (pv 3) (fun _ _ => rfl)))
      (pss_one (ps_ret (pe_calL (E := E) (i := 7) (DA.mono (by decide : 5 ≤ 8)) hr rfl (Or.inl rfl) (passes_call (takes_of rfl rfl rfl rfl) (fun _ _ _ _ h => h)) (pa_cons (pv 5) (pa_cons (pv 2) pa_nil))))))))))))))), ?_⟩
    refine ⟨fun σ H' => ∃ l, σ = [some (.ref d), some (.str (lineT (deedC (.given n x) :: argsC (.given n x)))), some (.ref l), none, none, none, none, none] ∧ Same H H' ∧ LS H' l (deedC (.given n x) :: argsC (.given n x)), ⟨_, rfl, _, _, _, rfl, ln_ok X _ cok, fun l H1 e1 h1 => ⟨l, rfl, e1, h1⟩⟩, ?_⟩
    rintro σ H1 ⟨l, rfl, e1, h1⟩
    refine ⟨fun σ H' => σ = [some (.ref d), some (.str (lineT (deedC (.given n x) :: argsC (.given n x)))), some (.ref l), some (.str (deedC (.given n x))), none, none, none, none] ∧ H1 = H', ⟨_, rfl, l, _, 0, _, rfl, rfl, .of h1, atI_nat (j := 0) rfl, rfl, rfl⟩, ?_⟩
    rintro σ _ ⟨rfl, rfl⟩
    have D1 := Dk.same e1
    refine ⟨_, rfl, rfl, false, (show V.bl (decide (V.str ("given" : Str) = V.str ("names" : Str))) = V.bl false by decide +kernel), ?_⟩
    refine iteF (A := True) ?_
    refine ⟨_, rfl, rfl, false, (show V.bl (decide (V.str ("given" : Str) = V.str ("undo" : Str))) = V.bl false by decide +kernel), ?_⟩
    refine iteF (A := True) ?_
    obtain ⟨dx, tp, as, q1, q2, q3⟩ := id D1
    obtain ⟨as', a, rfl, q4, kvs, q5, q6⟩ := q3.last
    refine ⟨fun σ H' => ∃ tb, σ = [some (.ref d), some (.str (lineT (deedC (.given n x) :: argsC (.given n x)))), some (.ref l), some (.str (deedC (.given n x))), some (.ref tb), none, none, none] ∧ Same H1 H' ∧ H1 tb = none ∧ H' tb = some (.dK kvs), ⟨_, rfl, d, _, dx, _, _, rfl, q1, T.c_Desk, T.n_Desk_tables, rfl, _, rfl, tp, _, _, _, rfl, rfl, .of q2, last_ref as' a, a, kvs, rfl, .of q5, fun tb htb => ⟨tb, rfl, Same.new htb, htb, upd_same⟩⟩, ?_⟩
    rintro σ H2 ⟨tb, rfl, e2, htb, ht2⟩
    have q6' : AllAt (EnT (RunV K g H2)) kvs t := q6.imp fun kv en ⟨u, r, v, z⟩ => ⟨u, r, v, z.same e2⟩
    have D2 := D1.same e2
    have l2' : LS H2 l (deedC (.given n x) :: argsC (.given n x)) := e2 _ _ h1
    have tbd : tb ≠ d := (ne_of_none q1 htb).symm
    refine ⟨_, rfl, rfl, false, (show V.bl (decide (V.str ("given" : Str) = V.str ("new" : Str))) = V.bl false by decide +kernel), ?_⟩
    refine iteF (A := True) ?_
    refine ⟨_, rfl, l, _, 1, _, rfl, rfl, .of l2', atI_nat (j := 1) rfl, _, rfl, tb, _, rfl, DGet.k (k := .inr n) ht2, _, rfl, ?_⟩
    obtain ⟨f1, f2⟩ | ⟨rows, v, f1, f2, r, rfl, Rr⟩ := tab_val q6' n
    · rw [f2]
      refine iteT (B := True) ?_
      refine ⟨_, rfl, l, _, 1, _, rfl, rfl, .of l2', atI_nat (j := 1) rfl, _, rfl, fun dd hdd => ?_⟩
      have k : TellPost K g d H Q E (tellM tabs t (.given n x)) := k
      simp only [tellM, onT, f1] at k
      have S3 : Same H2 (upd H2 dd (.xd [(("name" : Str), V.str n)])) := Same.new hdd
      exact k _ dd (fun y u ny h => S3 y u (e2 y u (e1 y u h))) (D2.same S3) upd_same
    · rw [f2]
      refine iteF (A := True) ?_
      refine ⟨_, rfl, rfl, false, (show V.bl (decide (V.str ("given" : Str) = V.str ("drop" : Str))) = V.bl false by decide +kernel), ?_⟩
      refine iteF (A := True) ?_
      obtain ⟨rdx, rp, rs, rss, r1, _⟩ := id Rr
      refine ⟨fun σ H' => ∃ r', σ = [some (.ref d), some (.str (lineT (deedC (.given n x) :: argsC (.given n x)))), some (.ref l), some (.str (deedC (.given n x))), some (.ref tb), some (.ref r'), none, none] ∧ Same H2 H' ∧ H2 r' = none ∧ RunAt K g H' r' rows, ⟨_, rfl, _, rfl, l, _, 1, _, rfl, rfl, .of l2', atI_nat (j := 1) rfl, tb, _, rfl, (show DGet H2 tb (kV (.inr n)) (some (.ref r)) by rw [← f2]; exact DGet.k ht2), r, rdx, _, rfl, r1, rfl, r, g, rows, o, rfl, Rr, e2 _ _ (e1 _ _ hg), fun r' H3 e3 h3 R3 => ⟨r', rfl, e3, h3, R3⟩⟩, ?_⟩
      rintro σ H3 ⟨r', rfl, e3, hr3, R3⟩
      have D3 := D2.same e3
      have l3 : LS H3 l (deedC (.given n x) :: argsC (.given n x)) := e3 _ _ l2'
      have wf : WfR rows := (tl3 _ (lkT_mem f1)).2
      have wl := wf.len
      refine ⟨_, rfl, rfl, false, (show V.bl (decide (V.str ("given" : Str) = V.str ("load" : Str))) = V.bl false by decide +kernel), ?_⟩
      refine iteF (A := True) ?_
      have k : TellPost K g d H Q E (tellM tabs t (.given n x)) := k
      simp only [tellM, onT, f1] at k
      have bt : ∀ H', Same H3 H' → But d H H' := fun H' e y u _ h => e y u (e3 y u (e2 y u (e1 y u h)))
      refine ⟨_, rfl, _, _, .ref (ga K "told_given"), rfl, rfl, ⟨es, nn, _, KD.at_, KD.lit, X.an_given, rfl⟩, rfl, _, rfl, _, rfl, ?_⟩
      have cok : NameOk n ∧ x ≤ 9 := cok
      refine ⟨r', l, g, rows, _, x, rfl, R3, by omega, l3, rfl, by omega, fun h H' e => ?_, fun h => ?_⟩
      · rw [decide_eq_true h] at k
        exact k H' (bt H' e) (D3.same e)
      · rw [decide_eq_false h] at k
        exact k H3 (bt H3 (Same.refl _)) D3
  | sho n =>
    have DA := ok_told_show (P := P) (w := w) (base := base) T F
    refine ⟨_, pss_cut (ps_set (i := 2) nd rfl (Or.inl rfl) (pe_cal (DW.mono (by decide : 4 ≤ 8)) hr (by rfl) T.g_words_of pass0 (pa_cons (pv 1) pa_nil)))
      (pss_cut (ps_set (i := 3) nd rfl (Or.inl rfl) (pe_ix ix_list (pv 2) pe_int (fun _ _ => rfl)))
(pss_cons (ps_if (pt_cmpR op_eq (pv 3) pe_str (nomark _)) pss_never pss_nil)
      (pss_cons (ps_if (pt_cmpR op_eq (pv 3) pe_str (nomark _)) pss_never pss_nil)
      (pss_cut (ps_set (i := 4) nd rfl (Or.inl rfl) (pe_callTy call_dictD (by rfl) T.b_dict (by decide +kernel) (pa_cons (pe_ix ix_tup (pe_fld (pv 0) (by rfl)) (pe_un un_neg pe_int) (fun _ _ => rfl)) pa_nil)))
      (pss_cons (ps_if (pt_cmpR op_eq (pv 3) pe_str (nomark _)) pss_never pss_nil)
      (pss_cons (ps_if (pt_cmp (pc_dnotin (hu_of hr) (pe_ix ix_list (pv 2) pe_int (fun _ _ => rfl)) (pv 4))) (pss_one (ps_raise rfl (takes_of rfl rfl rfl rfl) (pmk_sup1 X.ex_NoBook X.nb (by rfl) ⟨T.b_super, PO.f, PO.t⟩ hr (by rfl) T.g_NoBook (pa_cons (pe_ix ix_list (pv 2) pe_int (fun _ _ => rfl)) pa_nil)))) pss_nil)
      (pss_cons (ps_if (pt_cmpR op_eq (pv 3) pe_str (nomark _)) pss_never pss_nil)
      (pss_cut (ps_set (i := 5) nd rfl (Or.inl rfl) (pe_met0 (pe_dget (hu_of hr) (pv 4) (pe_ix ix_list (pv 2) pe_int (fun _ _ => rfl)) (fun _ _ => rfl)) T.c_Runtime T.m_Runtime_copy DC hr pass0))
      (pss_cons (ps_if (pt_cmpR op_eq (pv 3) pe_str (nomark _)) pss_never pss_nil)
      (pss_cons (ps_set (i := 7) nd rfl (Or.inl rfl) (pe_ix ix_kdict (pe_glob (v := .ref (ga K "ANSWERS")) (by rfl) T.g_ANSWERS rfl) (pv 3) (fun _ _ => rfl)))
      (pss_one (ps_ret (pe_calL (E := E) (i := 7) (DA.mono (by decide : 4 ≤ 8)) hr rfl (Or.inl rfl) (passes_call (takes_of rfl rfl rfl rfl) (fun _ _ _ _ h => h)) (pa_cons (pv 5) (pa_cons (pv 2) pa_nil))))))))))))))), ?_⟩
    refine ⟨fun σ H' => ∃ l, σ = [some (.ref d), some (.str (lineT (deedC (.sho n) :: argsC (.sho n)))), some (.ref l), none, none, none, none, none] ∧ Same H H' ∧ LS H' l (deedC (.sho n) :: argsC (.sho n)), ⟨_, rfl, _, _, _, rfl, ln_ok X _ cok, fun l H1 e1 h1 => ⟨l, rfl, e1, h1⟩⟩, ?_⟩
    rintro σ H1 ⟨l, rfl, e1, h1⟩
    refine ⟨fun σ H' => σ = [some (.ref d), some (.str (lineT (deedC (.sho n) :: argsC (.sho n)))), some (.ref l), some (.str (deedC (.sho n))), none, none, none, none] ∧ H1 = H', ⟨_, rfl, l, _, 0, _, rfl, rfl, .of h1, atI_nat (j := 0) rfl, rfl, rfl⟩, ?_⟩
    rintro σ _ ⟨rfl, rfl⟩
    have D1 := Dk.same e1
    refine ⟨_, rfl, rfl, false, (show V.bl (decide (V.str ("show" : Str) = V.str ("names" : Str))) = V.bl false by decide +kernel), ?_⟩
    refine iteF (A := True) ?_
    refine ⟨_, rfl, rfl, false, (show V.bl (decide (V.str ("show" : Str) = V.str ("undo" : Str))) = V.bl false by decide +kernel), ?_⟩
    refine iteF (A := True) ?_
    obtain ⟨dx, tp, as, q1, q2, q3⟩ := id D1
    obtain ⟨as', a, rfl, q4, kvs, q5, q6⟩ := q3.last
    refine ⟨fun σ H' => ∃ tb, σ = [some (.ref d), some (.str (lineT (deedC (.sho n) :: argsC (.sho n)))), some (.ref l), some (.str (deedC (.sho n))), some (.ref tb), none, none, none] ∧ Same H1 H' ∧ H1 tb = none ∧ H' tb = some (.dK kvs), ⟨_, rfl, d, _, dx, _, _, rfl, q1, T.c_Desk, T.n_Desk_tables, rfl, _, rfl, tp, _, _, _, rfl, rfl, .of q2, last_ref as' a, a, kvs, rfl, .of q5, fun tb htb => ⟨tb, rfl, Same.new htb, htb, upd_same⟩⟩, ?_⟩
    rintro σ H2 ⟨tb, rfl, e2, htb, ht2⟩
    have q6' : AllAt (EnT (RunV K g H2)) kvs t := q6.imp fun kv en ⟨u, r, v, z⟩ => ⟨u, r, v, z.same e2⟩
    have D2 := D1.same e2
    have l2' : LS H2 l (deedC (.sho n) :: argsC (.sho n)) := e2 _ _ h1
    have tbd : tb ≠ d := (ne_of_none q1 htb).symm
    refine ⟨_, rfl, rfl, false, (show V.bl (decide (V.str ("show" : Str) = V.str ("new" : Str))) = V.bl false by decide +kernel), ?_⟩
    refine iteF (A := True) ?_
    refine ⟨_, rfl, l, _, 1, _, rfl, rfl, .of l2', atI_nat (j := 1) rfl, _, rfl, tb, _, rfl, DGet.k (k := .inr n) ht2, _, rfl, ?_⟩
    obtain ⟨f1, f2⟩ | ⟨rows, v, f1, f2, r, rfl, Rr⟩ := tab_val q6' n
    · rw [f2]
      refine iteT (B := True) ?_
      refine ⟨_, rfl, l, _, 1, _, rfl, rfl, .of l2', atI_nat (j := 1) rfl, _, rfl, fun dd hdd => ?_⟩
      have k : TellPost K g d H Q E (tellM tabs t (.sho n)) := k
      simp only [tellM, onT, f1] at k
      have S3 : Same H2 (upd H2 dd (.xd [(("name" : Str), V.str n)])) := Same.new hdd
      exact k _ dd (fun y u ny h => S3 y u (e2 y u (e1 y u h))) (D2.same S3) upd_same
    · rw [f2]
      refine iteF (A := True) ?_
      refine ⟨_, rfl, rfl, false, (show V.bl (decide (V.str ("show" : Str) = V.str ("drop" : Str))) = V.bl false by decide +kernel), ?_⟩
      refine iteF (A := True) ?_
      obtain ⟨rdx, rp, rs, rss, r1, _⟩ := id Rr
      refine ⟨fun σ H' => ∃ r', σ = [some (.ref d), some (.str (lineT (deedC (.sho n) :: argsC (.sho n)))), some (.ref l), some (.str (deedC (.sho n))), some (.ref tb), some (.ref r'), none, none] ∧ Same H2 H' ∧ H2 r' = none ∧ RunAt K g H' r' rows, ⟨_, rfl, _, rfl, l, _, 1, _, rfl, rfl, .of l2', atI_nat (j := 1) rfl, tb, _, rfl, (show DGet H2 tb (kV (.inr n)) (some (.ref r)) by rw [← f2]; exact DGet.k ht2), r, rdx, _, rfl, r1, rfl, r, g, rows, o, rfl, Rr, e2 _ _ (e1 _ _ hg), fun r' H3 e3 h3 R3 => ⟨r', rfl, e3, h3, R3⟩⟩, ?_⟩
      rintro σ H3 ⟨r', rfl, e3, hr3, R3⟩
      have D3 := D2.same e3
      have l3 : LS H3 l (deedC (.sho n) :: argsC (.sho n)) := e3 _ _ l2'
      have wf : WfR rows := (tl3 _ (lkT_mem f1)).2
      have wl := wf.len
      refine ⟨_, rfl, rfl, false, (show V.bl (decide (V.str ("show" : Str) = V.str ("load" : Str))) = V.bl false by decide +kernel), ?_⟩
      refine iteF (A := True) ?_
      have k : TellPost K g d H Q E (tellM tabs t (.sho n)) := k
      simp only [tellM, onT, f1] at k
      have bt : ∀ H', Same H3 H' → But d H H' := fun H' e y u _ h => e y u (e3 y u (e2 y u (e1 y u h)))
      refine ⟨_, rfl, _, _, .ref (ga K "told_show"), rfl, rfl, ⟨es, nn, _, KD.at_, KD.lit, X.an_show, rfl⟩, rfl, _, rfl, _, rfl, ?_⟩
      exact ⟨r', l, g, rows, rfl, R3, wf.rw, fun H' e => k H' (bt H' e) (D3.same e)⟩
  | width n =>
    have DA := (ok_told_width (P := P) (w := w) (base := base) T F).wide (CX := L2.CX P w)
    refine ⟨_, pss_cut (ps_set (i := 2) nd rfl (Or.inl rfl) (pe_cal (DW.mono (by decide : 4 ≤ 8)) hr (by rfl) T.g_words_of pass0 (pa_cons (pv 1) pa_nil)))
      (pss_cut (ps_set (i := 3) nd rfl (Or.inl rfl) (pe_ix ix_list (pv 2) pe_int (fun _ _ => rfl)))
(pss_cons (ps_if (pt_cmpR op_eq (pv 3) pe_str (nomark _)) pss_never pss_nil)
      (pss_cons (ps_if (pt_cmpR op_eq (pv 3) pe_str (nomark _)) pss_never pss_nil)
      (pss_cut (ps_set (i := 4) nd rfl (Or.inl rfl) (pe_callTy call_dictD (by rfl) T.b_dict (by decide +kernel) (pa_cons (pe_ix ix_tup (pe_fld (pv 0) (by rfl)) (pe_un un_neg pe_int) (fun _ _ => rfl)) pa_nil)))
      (pss_cons (ps_if (pt_cmpR op_eq (pv 3) pe_str (nomark _)) pss_never pss_nil)
      (pss_cons (ps_if (pt_cmp (pc_dnotin (hu_of hr) (pe_ix ix_list (pv 2) pe_int (fun _ _ => rfl)) (pv 4))) (pss_one (ps_raise rfl (takes_of rfl rfl rfl rfl) (pmk_sup1 X.ex_NoBook X.nb (by rfl) ⟨T.b_super, PO.f, PO.t⟩ hr (by rfl) T.g_NoBook (pa_cons (pe_ix ix_list (pv 2) pe_int (fun _ _ => rfl)) pa_nil)))) pss_nil)
      (pss_cons (ps_if (pt_cmpR op_eq (pv 3) pe_str (nomark _)) pss_never pss_nil)
      (pss_cut (ps_set (i := 5) nd rfl (Or.inl rfl) (pe_met0 (pe_dget (hu_of hr) (pv 4) (pe_ix ix_list (pv 2) pe_int (fun _ _ => rfl)) (fun _ _ => rfl)) T.c_Runtime T.m_Runtime_copy DC hr pass0))
      (pss_cons (ps_if (pt_cmpR op_eq (pv 3) pe_str (nomark _)) pss_never pss_nil)
      (pss_cons (ps_set (i := 7) nd rfl (Or.inl rfl) (pe_ix ix_kdict (pe_glob (v := .ref (ga K "ANSWERS")) (by rfl) T.g_ANSWERS rfl) (pv 3) (fun _ _ => rfl)))
      (pss_one (ps_ret (pe_calL (E := E) (i := 7) (DA.mono (by decide : 7 ≤ 8)) hr rfl (Or.inl rfl) (passes_call (takes_of rfl rfl rfl rfl) (fun _ _ _ _ h => h)) (pa_cons (pv 5) (pa_cons (pv 2) pa_nil))))))))))))))), ?_⟩
    refine ⟨fun σ H' => ∃ l, σ = [some (.ref d), some (.str (lineT (deedC (.width n) :: argsC (.width n)))), some (.ref l), none, none, none, none, none] ∧ Same H H' ∧ LS H' l (deedC (.width n) :: argsC (.width n)), ⟨_, rfl, _, _, _, rfl, ln_ok X _ cok, fun l H1 e1 h1 => ⟨l, rfl, e1, h1⟩⟩, ?_⟩
    rintro σ H1 ⟨l, rfl, e1, h1⟩
    refine ⟨fun σ H' => σ = [some (.ref d), some (.str (lineT (deedC (.width n) :: argsC (.width n)))), some (.ref l), some (.str (deedC (.width n))), none, none, none, none] ∧ H1 = H', ⟨_, rfl, l, _, 0, _, rfl, rfl, .of h1, atI_nat (j := 0) rfl, rfl, rfl⟩, ?_⟩
    rintro σ _ ⟨rfl, rfl⟩
    have D1 := Dk.same e1
    refine ⟨_, rfl, rfl, false, (show V.bl (decide (V.str ("width" : Str) = V.str ("names" : Str))) = V.bl false by decide +kernel), ?_⟩
    refine iteF (A := True) ?_
    refine ⟨_, rfl, rfl, false, (show V.bl (decide (V.str ("width" : Str) = V.str ("undo" : Str))) = V.bl false by decide +kernel), ?_⟩
    refine iteF (A := True) ?_
    obtain ⟨dx, tp, as, q1, q2, q3⟩ := id D1
    obtain ⟨as', a, rfl, q4, kvs, q5, q6⟩ := q3.last
    refine ⟨fun σ H' => ∃ tb, σ = [some (.ref d), some (.str (lineT (deedC (.width n) :: argsC (.width n)))), some (.ref l), some (.str (deedC (.width n))), some (.ref tb), none, none, none] ∧ Same H1 H' ∧ H1 tb = none ∧ H' tb = some (.dK kvs), ⟨_, rfl, d, _, dx, _, _, rfl, q1, T.c_Desk, T.n_Desk_tables, rfl, _, rfl, tp, _, _, _, rfl, rfl, .of q2, last_ref as' a, a, kvs, rfl, .of q5, fun tb htb => ⟨tb, rfl, Same.new htb, htb, upd_same⟩⟩, ?_⟩
    rintro σ H2 ⟨tb, rfl, e2, htb, ht2⟩
    have q6' : AllAt (EnT (RunV K g H2)) kvs t := q6.imp fun kv en ⟨u, r, v, z⟩ => ⟨u, r, v, z.same e2⟩
    have D2 := D1.same e2
    have l2' : LS H2 l (deedC (.width n) :: argsC (.width n)) := e2 _ _ h1
    have tbd : tb ≠ d := (ne_of_none q1 htb).symm
    refine ⟨_, rfl, rfl, false, (show V.bl (decide (V.str ("width" : Str) = V.str ("new" : Str))) = V.bl false by decide +kernel), ?_⟩
    refine iteF (A := True) ?_
    refine ⟨_, rfl, l, _, 1, _, rfl, rfl, .of l2', atI_nat (j := 1) rfl, _, rfl, tb, _, rfl, DGet.k (k := .inr n) ht2, _, rfl, ?_⟩
    obtain ⟨f1, f2⟩ | ⟨rows, v, f1, f2, r, rfl, Rr⟩ := tab_val q6' n
    · rw [f2]
      refine iteT (B := True) ?_
      refine ⟨_, rfl, l, _, 1, _, rfl, rfl, .of l2', atI_nat (j := 1) rfl, _, rfl, fun dd hdd => ?_⟩
      have k : TellPost K g d H Q E (tellM tabs t (.width n)) := k
      simp only [tellM, onT, f1] at k
      have S3 : Same H2 (upd H2 dd (.xd [(("name" : Str), V.str n)])) := Same.new hdd
      exact k _ dd (fun y u ny h => S3 y u (e2 y u (e1 y u h))) (D2.same S3) upd_same
    · rw [f2]
      refine iteF (A := True) ?_
      refine ⟨_, rfl, rfl, false, (show V.bl (decide (V.str ("width" : Str) = V.str ("drop" : Str))) = V.bl false by decide +kernel), ?_⟩
      refine iteF (A := True) ?_
      obtain ⟨rdx, rp, rs, rss, r1, _⟩ := id Rr
      refine ⟨fun σ H' => ∃ r', σ = [some (.ref d), some (.str (lineT (deedC (.width n) :: argsC (.width n)))), some (.ref l), some (.str (deedC (.width n))), some (.ref tb), some (.ref r'), none, none] ∧ Same H2 H' ∧ H2 r' = none ∧ RunAt K g H' r' rows, ⟨_, rfl, _, rfl, l, _, 1, _, rfl, rfl, .of l2', atI_nat (j := 1) rfl, tb, _, rfl, (show DGet H2 tb (kV (.inr n)) (some (.ref r)) by rw [← f2]; exact DGet.k ht2), r, rdx, _, rfl, r1, rfl, r, g, rows, o, rfl, Rr, e2 _ _ (e1 _ _ hg), fun r' H3 e3 h3 R3 => ⟨r', rfl, e3, h3, R3⟩⟩, ?_⟩
      rintro σ H3 ⟨r', rfl, e3, hr3, R3⟩
      have D3 := D2.same e3
      have l3 : LS H3 l (deedC (.width n) :: argsC (.width n)) := e3 _ _ l2'
      have wf : WfR rows := (tl3 _ (lkT_mem f1)).2
      have wl := wf.len
      refine ⟨_, rfl, rfl, false, (show V.bl (decide (V.str ("width" : Str) = V.str ("load" : Str))) = V.bl false by decide +kernel), ?_⟩
      refine iteF (A := True) ?_
      have k : TellPost K g d H Q E (tellM tabs t (.width n)) := k
      simp only [tellM, onT, f1] at k
      have bt : ∀ H', Same H3 H' → But d H H' := fun H' e y u _ h => e y u (e3 y u (e2 y u (e1 y u h)))
      refine ⟨_, rfl, _, _, .ref (ga K "told_width"), rfl, rfl, ⟨es, nn, _, KD.at_, KD.lit, X.an_width, rfl⟩, rfl, _, rfl, _, rfl, ?_⟩
      exact ⟨r', l, g, rows, rfl, R3, by omega, fun H' e => k H' (bt H' e) (D3.same e)⟩
  | slots n =>
    have DA := ok_told_slots (base := base) PO T F X
    refine ⟨_, pss_cut (ps_set (i := 2) nd rfl (Or.inl rfl) (pe_cal (DW.mono (by decide : 4 ≤ 8)) hr (by rfl) T.g_words_of pass0 (pa_cons (pv 1) pa_nil)))
      (pss_cut (ps_set (i := 3) nd rfl (Or.inl rfl) (pe_ix ix_list (pv 2) pe_int (fun _ _ => rfl)))
(pss_cons (ps_if (pt_cmpR op_eq (pv 3) pe_str (nomark _)) pss_never pss_nil)
      (pss_cons (ps_if (pt_cmpR op_eq (pv 3) pe_str (nomark _)) pss_never pss_nil)
      (pss_cut (ps_set (i := 4) nd rfl (Or.inl rfl) (pe_callTy call_dictD (by rfl) T.b_dict (by decide +kernel) (pa_cons (pe_ix ix_tup (pe_fld (pv 0) (by rfl)) (pe_un un_neg pe_int) (fun _ _ => rfl)) pa_nil)))
      (pss_cons (ps_if (pt_cmpR op_eq (pv 3) pe_str (nomark _)) pss_never pss_nil)
      (pss_cons (ps_if (pt_cmp (pc_dnotin (hu_of hr) (pe_ix ix_list (pv 2) pe_int (fun _ _ => rfl)) (pv 4))) (pss_one (ps_raise rfl (takes_of rfl rfl rfl rfl) (pmk_sup1 X.ex_NoBook X.nb (by rfl) ⟨T.b_super, PO.f, PO.t⟩ hr (by rfl) T.g_NoBook (pa_cons (pe_ix ix_list (pv 2) pe_int (fun _ _ => rfl)) pa_nil)))) pss_nil)
      (pss_cons (ps_if (pt_cmpR op_eq (pv 3) pe_str (nomark _)) pss_never pss_nil)
      (pss_cut (ps_set (i := 5) nd rfl (Or.inl rfl) (pe_met0 (pe_dget (hu_of hr) (pv 4) (pe_ix ix_list (pv 2) pe_int (fun _ _ => rfl)) (fun _ _ => rfl)) T.c_Runtime T.m_Runtime_copy DC hr pass0))
      (pss_cons (ps_if (pt_cmpR op_eq (pv 3) pe_str (nomark _)) pss_never pss_nil)
      (pss_cons (ps_set (i := 7) nd rfl (Or.inl rfl) (pe_ix ix_kdict (pe_glob (v := .ref (ga K "ANSWERS")) (by rfl) T.g_ANSWERS rfl) (pv 3) (fun _ _ => rfl)))
      (pss_one (ps_ret (pe_calL (E := E) (i := 7) (DA.mono (by decide : 5 ≤ 8)) hr rfl (Or.inl rfl) (passes_call (takes_of rfl rfl rfl rfl) (fun _ _ _ _ h => h)) (pa_cons (pv 5) (pa_cons (pv 2) pa_nil))))))))))))))), ?_⟩
    refine ⟨fun σ H' => ∃ l, σ = [some (.ref d), some (.str (lineT (deedC (.slots n) :: argsC (.slots n)))), some (.ref l), none, none, none, none, none] ∧ Same H H' ∧ LS H' l (deedC (.slots n) :: argsC (.slots n)), ⟨_, rfl, _, _, _, rfl, ln_ok X _ cok, fun l H1 e1 h1 => ⟨l, rfl, e1, h1⟩⟩, ?_⟩
    rintro σ H1 ⟨l, rfl, e1, h1⟩
    refine ⟨fun σ H' => σ = [some (.ref d), some (.str (lineT (deedC (.slots n) :: argsC (.slots n)))), some (.ref l), some (.str (deedC (.slots n))), none, none, none, none] ∧ H1 = H', ⟨_, rfl, l, _, 0, _, rfl, rfl, .of h1, atI_nat (j := 0) rfl, rfl, rfl⟩, ?_⟩
    rintro σ _ ⟨rfl, rfl⟩
    have D1 := Dk.same e1
    refine ⟨_, rfl, rfl, false, (show V.bl (decide (V.str ("slots" : Str) = V.str ("names" : Str))) = V.bl false by decide +kernel), ?_⟩
    refine iteF (A := True) ?_
    refine ⟨_, rfl, rfl, false, (show V.bl (decide (V.str ("slots" : Str) = V.str ("undo" : Str))) = V.bl false by decide +kernel), ?_⟩
    refine iteF (A := True) ?_
    obtain ⟨dx, tp, as, q1, q2, q3⟩ := id D1
    obtain ⟨as', a, rfl, q4, kvs, q5, q6⟩ := q3.last
    refine ⟨fun σ H' => ∃ tb, σ = [some (.ref d), some (.str (lineT (deedC (.slots n) :: argsC (.slots n)))), some (.ref l), some (.str (deedC (.slots n))), some (.ref tb), none, none, none] ∧ Same H1 H' ∧ H1 tb = none ∧ H' tb = some (.dK kvs), ⟨_, rfl, d, _, dx, _, _, rfl, q1, T.c_Desk, T.n_Desk_tables, rfl, _, rfl, tp, _, _, _, rfl, rfl, .of q2, last_ref as' a, a, kvs, rfl, .of q5, fun tb htb => ⟨tb, rfl, Same.new htb, htb, upd_same⟩⟩, ?_⟩
    rintro σ H2 ⟨tb, rfl, e2, htb, ht2⟩
    have q6' : AllAt (EnT (RunV K g H2)) kvs t := q6.imp fun kv en ⟨u, r, v, z⟩ => ⟨u, r, v, z.same e2⟩
    have D2 := D1.same e2
    have l2' : LS H2 l (deedC (.slots n) :: argsC (.slots n)) := e2 _ _ h1
    have tbd : tb ≠ d := (ne_of_none q1 htb).symm
    refine ⟨_, rfl, rfl, false, (show V.bl (decide (V.str ("slots" : Str) = V.str ("new" : Str))) = V.bl false by decide +kernel), ?_⟩
    refine iteF (A := True) ?_
    refine ⟨_, rfl, l, _, 1, _, rfl, rfl, .of l2', atI_nat (j := 1) rfl, _, rfl, tb, _, rfl, DGet.k (k := .inr n) ht2, _, rfl, ?_⟩
    obtain ⟨f1, f2⟩ | ⟨rows, v, f1, f2, r, rfl, Rr⟩ := tab_val q6' n
    · rw [f2]
      refine iteT (B := True) ?_
      refine ⟨_, rfl, l, _, 1, _, rfl, rfl, .of l2', atI_nat (j := 1) rfl, _, rfl, fun dd hdd => ?_⟩
      have k : TellPost K g d H Q E (tellM tabs t (.slots n)) := k
      simp only [tellM, onT, f1] at k
      have S3 : Same H2 (upd H2 dd (.xd [(("name" : Str), V.str n)])) := Same.new hdd
      exact k _ dd (fun y u ny h => S3 y u (e2 y u (e1 y u h))) (D2.same S3) upd_same
    · rw [f2]
      refine iteF (A := True) ?_
      refine ⟨_, rfl, rfl, false, (show V.bl (decide (V.str ("slots" : Str) = V.str ("drop" : Str))) = V.bl false by decide +kernel), ?_⟩
      refine iteF (A := True) ?_
      obtain ⟨rdx, rp, rs, rss, r1, _⟩ := id Rr
      refine ⟨fun σ H' => ∃ r', σ = [some (.ref d), some (.str (lineT (deedC (.slots n) :: argsC (.slots n)))), some (.ref l), some (.str (deedC (.slots n))), some (.ref tb), some (.ref r'), none, none] ∧ Same H2 H' ∧ H2 r' = none ∧ RunAt K g H' r' rows, ⟨_, rfl, _, rfl, l, _, 1, _, rfl, rfl, .of l2', atI_nat (j := 1) rfl, tb, _, rfl, (show DGet H2 tb (kV (.inr n)) (some (.ref r)) by rw [← f2]; exact DGet.k ht2), r, rdx, _, rfl, r1, rfl, r, g, rows, o, rfl, Rr, e2 _ _ (e1 _ _ hg), fun r' H3 e3 h3 R3 => ⟨r', rfl, e3, h3, R3⟩⟩, ?_⟩
      rintro σ H3 ⟨r', rfl, e3, hr3, R3⟩
      have D3 := D2.same e3
      have l3 : LS H3 l (deedC (.slots n) :: argsC (.slots n)) := e3 _ _ l2'
      have wf : WfR rows := (tl3 _ (lkT_mem f1)).2
      have wl := wf.len
      refine ⟨_, rfl, rfl, false, (show V.bl (decide (V.str ("slots" : Str) = V.str ("load" : Str))) = V.bl false by decide +kernel), ?_⟩
      refine iteF (A := True) ?_
      have k : TellPost K g d H Q E (tellM tabs t (.slots n)) := k
      simp only [tellM, onT, f1] at k
      have bt : ∀ H', Same H3 H' → But d H H' := fun H' e y u _ h => e y u (e3 y u (e2 y u (e1 y u h)))
      refine ⟨_, rfl, _, _, .ref (ga K "told_slots"), rfl, rfl, ⟨es, nn, _, KD.at_, KD.lit, X.an_slots, rfl⟩, rfl, _, rfl, _, rfl, ?_⟩
      exact ⟨r', l, g, rows, rfl, R3, by omega, fun H' e => k H' (bt H' e) (D3.same e)⟩
  | groups n =>
    have DA := (ok_told_groups (P := P) (w := w) (base := base) T F).wide (CX := L2.CX P w)
    refine ⟨_, pss_cut (ps_set (i := 2) nd rfl (Or.inl rfl) (pe_cal (DW.mono (by decide : 4 ≤ 8)) hr (by rfl) T.g_words_of pass0 (pa_cons (pv 1) pa_nil)))
      (pss_cut (ps_set (i := 3) nd rfl (Or.inl rfl) (pe_ix ix_list (pv 2) pe_int (fun _ _ => rfl)))
(pss_cons (ps_if (pt_cmpR op_eq (pv 3) pe_str (nomark _)) pss_never pss_nil)
      (pss_cons (ps_if (pt_cmpR op_eq (pv 3) pe_str (nomark _)) pss_never pss_nil)
      (pss_cut (ps_set (i := 4) nd rfl (Or.inl rfl) (pe_callTy call_dictD (by rfl) T.b_dict (by decide +kernel) (pa_cons (pe_ix ix_tup (pe_fld (pv 0) (by rfl)) (pe_un un_neg pe_int) (fun _ _ => rfl)) pa_nil)))
      (pss_cons (ps_if (pt_cmpR op_eq (pv 3) pe_str (nomark _)) pss_never pss_nil)
      (pss_cons (ps_if (pt_cmp (pc_dnotin (hu_of hr) (pe_ix ix_list (pv 2) pe_int (fun _ _ => rfl)) (pv 4))) (pss_one (ps_raise rfl (takes_of rfl rfl rfl rfl) (pmk_sup1 X.ex_NoBook X.nb (by rfl) ⟨T.b_super, PO.f, PO.t⟩ hr (by rfl) T.g_NoBook (pa_cons (pe_ix ix_list (pv 2) pe_int (fun _ _ => rfl)) pa_nil)))) pss_nil)
      (pss_cons (ps_if (pt_cmpR op_eq (pv 3) pe_str (nomark _)) pss_never pss_nil)
      (pss_cut (ps_set (i := 5) nd rfl (Or.inl rfl) (pe_met0 (pe_dget (hu_of hr) (pv 4) (pe_ix ix_list (pv 2) pe_int (fun _ _ => rfl)) (fun _ _ => rfl)) T.c_Runtime T.m_Runtime_copy DC hr pass0))
      (pss_cons (ps_if (pt_cmpR op_eq (pv 3) pe_str (nomark _)) pss_never pss_nil)
      (pss_cons (ps_set (i := 7) nd rfl (Or.inl rfl) (pe_ix ix_kdict (pe_glob (v := .ref (ga K "ANSWERS")) (by rfl) T.g_ANSWERS rfl) (pv 3) (fun _ _ => rfl)))
      (pss_one (ps_ret (pe_calL (E := E) (i := 7) (DA.mono (by decide : 5 ≤ 8)) hr rfl (Or.inl rfl) (passes_call (takes_of rfl rfl rfl rfl) (fun _ _ _ _ h => h)) (pa_cons (pv 5) (pa_cons (pv 2) pa_nil))))))))))))))), ?_⟩
    refine ⟨fun σ H' => ∃ l, σ = [some (.ref d), some (.str (lineT (deedC (.groups n) :: argsC (.groups n)))), some (.ref l), none, none, none, none, none] ∧ Same H H' ∧ LS H' l (deedC (.groups n) :: argsC (.groups n)), ⟨_, rfl, _, _, _, rfl, ln_ok X _ cok, fun l H1 e1 h1 => ⟨l, rfl, e1, h1⟩⟩, ?_⟩
    rintro σ H1 ⟨l, rfl, e1, h1⟩
    refine ⟨fun σ H' => σ = [some (.ref d), some (.str (lineT (deedC (.groups n) :: argsC (.groups n)))), some (.ref l), some (.str (deedC (.groups n))), none, none, none, none] ∧ H1 = H', ⟨_, rfl, l, _, 0, _, rfl, rfl, .of h1, atI_nat (j := 0) rfl, rfl, rfl⟩, ?_⟩
    rintro σ _ ⟨rfl, rfl⟩
    have D1 := Dk.same e1
    refine ⟨_, rfl, rfl, false, (show V.bl (decide (V.str ("groups" : Str) = V.str ("names" : Str))) = V.bl false by decide +kernel), ?_⟩
    refine iteF (A := True) ?_
    refine ⟨_, rfl, rfl, false, (show V.bl (decide (V.str ("groups" : Str) = V.str ("undo" : Str))) = V.bl false by decide +kernel), ?_⟩
    refine iteF (A := True) ?_
    obtain ⟨dx, tp, as, q1, q2, q3⟩ := id D1
    obtain ⟨as', a, rfl, q4, kvs, q5, q6⟩ := q3.last
    refine ⟨fun σ H' => ∃ tb, σ = [some (.ref d), some (.str (lineT (deedC (.groups n) :: argsC (.groups n)))), some (.ref l), some (.str (deedC (.groups n))), some (.ref tb), none, none, none] ∧ Same H1 H' ∧ H1 tb = none ∧ H' tb = some (.dK kvs), ⟨_, rfl, d, _, dx, _, _, rfl, q1, T.c_Desk, T.n_Desk_tables, rfl, _, rfl, tp, _, _, _, rfl, rfl, .of q2, last_ref as' a, a, kvs, rfl, .of q5, fun tb htb => ⟨tb, rfl, Same.new htb, htb, upd_same⟩⟩, ?_⟩
    rintro σ H2 ⟨tb, rfl, e2, htb, ht2⟩
    have q6' : AllAt (EnT (RunV K g H2)) kvs t := q6.imp fun kv en ⟨u, r, v, z⟩ => ⟨u, r, v, z.same e2⟩
    have D2 := D1.same e2
    have l2' : LS H2 l (deedC (.groups n) :: argsC (.groups n)) := e2 _ _ h1
    have tbd : tb ≠ d := (ne_of_none q1 htb).symm
    refine ⟨_, rfl, rfl, false, (show V.bl (decide (V.str ("groups" : Str) = V.str ("new" : Str))) = V.bl false by decide +kernel), ?_⟩
    refine iteF (A := True) ?_
    refine ⟨_, rfl, l, _, 1, _, rfl, rfl, .of l2', atI_nat (j := 1) rfl, _, rfl, tb, _, rfl, DGet.k (k := .inr n) ht2, _, rfl, ?_⟩
    obtain ⟨f1, f2⟩ | ⟨rows, v, f1, f2, r, rfl, Rr⟩ := tab_val q6' n
    · rw [f2]
      refine iteT (B := True) ?_
      refine ⟨_, rfl, l, _, 1, _, rfl, rfl, .of l2', atI_nat (j := 1) rfl, _, rfl, fun dd hdd => ?_⟩
      have k : TellPost K g d H Q E (tellM tabs t (.groups n)) := k
      simp only [tellM, onT, f1] at k
      have S3 : Same H2 (upd H2 dd (.xd [(("name" : Str), V.str n)])) := Same.new hdd
      exact k _ dd (fun y u ny h => S3 y u (e2 y u (e1 y u h))) (D2.same S3) upd_same
    · rw [f2]
      refine iteF (A := True) ?_
      refine ⟨_, rfl, rfl, false, (show V.bl (decide (V.str ("groups" : Str) = V.str ("drop" : Str))) = V.bl false by decide +kernel), ?_⟩
      refine iteF (A := True) ?_
      obtain ⟨rdx, rp, rs, rss, r1, _⟩ := id Rr
      refine ⟨fun σ H' => ∃ r', σ = [some (.ref d), some (.str (lineT (deedC (.groups n) :: argsC (.groups n)))), some (.ref l), some (.str (deedC (.groups n))), some (.ref tb), some (.ref r'), none, none] ∧ Same H2 H' ∧ H2 r' = none ∧ RunAt K g H' r' rows, ⟨_, rfl, _, rfl, l, _, 1, _, rfl, rfl, .of l2', atI_nat (j := 1) rfl, tb, _, rfl, (show DGet H2 tb (kV (.inr n)) (some (.ref r)) by rw [← f2]; exact DGet.k ht2), r, rdx, _, rfl, r1, rfl, r, g, rows, o, rfl, Rr, e2 _ _ (e1 _ _ hg), fun r' H3 e3 h3 R3 => ⟨r', rfl, e3, h3, R3⟩⟩, ?_⟩
      rintro σ H3 ⟨r', rfl, e3, hr3, R3⟩
      have D3 := D2.same e3
      have l3 : LS H3 l (deedC (.groups n) :: argsC (.groups n)) := e3 _ _ l2'
      have wf : WfR rows := (tl3 _ (lkT_mem f1)).2
      have wl := wf.len
      refine ⟨_, rfl, rfl, false, (show V.bl (decide (V.str ("groups" : Str) = V.str ("load" : Str))) = V.bl false by decide +kernel), ?_⟩
      refine iteF (A := True) ?_
      have k : TellPost K g d H Q E (tellM tabs t (.groups n)) := k
      simp only [tellM, onT, f1] at k
      have bt : ∀ H', Same H3 H' → But d H H' := fun H' e y u _ h => e y u (e3 y u (e2 y u (e1 y u h)))
      refine ⟨_, rfl, _, _, .ref (ga K "told_groups"), rfl, rfl, ⟨es, nn, _, KD.at_, KD.lit, X.an_groups, rfl⟩, rfl, _, rfl, _, rfl, ?_⟩
      exact ⟨r', l, g, rows, rfl, R3, by omega, fun H' e => k H' (bt H' e) (D3.same e)⟩

end
end Lk
set_option Elab.async false
set_option linter.all false
set_option maxRecDepth 100000
set_option maxHeartbeats 4000000
namespace L2
open PySem PySem.Spec PyProof.Rows
/-- what a list of clauses wants of an exception; none may pass them all -/
abbrev WD := Ends → WX
/-- behind a clause with a name at slot i the name is gone -/
abbrev Ends.gone (D : Ends) (i : Nat) : Ends := { nx := fun σ H => D.nx (σ.set i none) H, rt := D.rt, bk := fun σ H => D.bk (σ.set i none) H, ct := fun σ H => D.ct (σ.set i none) H }
abbrev SuiteOk (X : Cx) (sts : List Stmt) (ts : Addr → Value → Option Addr → TS) : Prop := ∀ (a : Addr) (oe : Obj) (cls : Value) (d : Option Addr) (pn : List (Addr × Obj)), Zc cls d oe → (∃ vs, oe.data = .fields vs) → PSs (X.suite a ((a, oe) :: pn)) sts (ts a cls d)
inductive Clauses (X : Cx) : List ExceptHandler → WD → Prop
  | nil : Clauses X [] (fun _ _ _ _ _ => False)
  | plain {x : Str} {c : Value} {ts : Addr → Value → Option Addr → TS} {b₀ : Stmt} {suite : List Stmt} {np pos' : Pos} {hds : List ExceptHandler} {W : WD} (hc : Names X x c) (hsu : SuiteOk X (b₀ :: suite) ts) (r : Clauses X hds W) :
      Clauses X (.ExceptHandler (some (.Name x np)) none (b₀ :: suite) pos' :: hds) (fun D cls d σ H => ∃ b, PySem.W.exmOne X.K cls c = some b ∧ (b = true → ∀ a, H a = none → ts a cls d D σ H) ∧ (b = false → W D cls d σ H))
  | named {x n : Str} {i : Nat} {c : Value} {ts : Addr → Value → Option Addr → TS} {b₀ : Stmt} {suite : List Stmt} {np pos' : Pos} {hds : List ExceptHandler} {W : WD} (hi : X.N[i]? = some n) (hln : X.env.kindOf n = some .local) (hc : Names X x c) (hsu : SuiteOk X (b₀ :: suite) ts) (r : Clauses X hds W) :
      Clauses X (.ExceptHandler (some (.Name x np)) (some n) (b₀ :: suite) pos' :: hds) (fun D cls d σ H => ∃ b, PySem.W.exmOne X.K cls c = some b ∧ (b = true → ∀ a, H a = none → ts a cls d (D.gone i) (σ.set i (some (.ref a))) H) ∧ (b = false → W D cls d σ H))
section
variable {X : Cx} {pins : List (Addr × Obj)} {B : Heap} {a : Addr} {cls : Value} {d : Option Addr} {σ : L2.St} {H : Hp} {sI s : Shared} {D : Ends}
/-- an exception that was noted and stands on the ground -/
structure Down (X : Cx) (pins : List (Addr × Obj)) (B : Heap) (a : Addr) (cls : Value) (d : Option Addr) (σ : L2.St) (H : Hp) (sI s : Shared) : Prop where
  ok : X.Ok
  I : Inv X pins σ H sI
  nb : ∀ b o, sI.heap.get? b = some o → b ∉ frs X.stack → B.get? b = some o
  up : sI.heap.UpToSlots s.heap
  fl : HandSPX.FlyingZ B (X.env :: X.outer) a (Zc cls d) s.heap
  hf : X.env.frame = some X.env.locals
  na : H a = none
  os : s.os = sI.os
  ag : AllBare s.gens
theorem Down.here (x : Down X pins B a cls d σ H sI s) : ∃ oe, s.heap.get? a = some oe ∧ Zc cls d oe ∧ (∃ vs, oe.data = .fields vs) ∧ Inv (X.suite a ((a, oe) :: (X.pn ++ pins))) [] σ H s := by
  have J := x.I.landed x.nb x.fl.1 x.up x.os x.ag
  obtain ⟨oe, vs, he, hz, hd⟩ := x.fl.there
  have apart : a ∉ frs (X.env :: X.outer) := fun hm => by
    obtain ⟨_, o', e', no⟩ := x.fl.2.2.1.mem hm
    rw [he] at e'
    cases e'
    exact no _ hd
  refine ⟨oe, he, hz, ⟨vs, hd⟩, J.suite he hd x.na (fun z => apart (List.mem_filterMap.mpr ⟨X.env, List.mem_cons_self, by rw [x.hf, z]⟩)) fun hm => ?_⟩
  obtain ⟨e, he', q⟩ := List.mem_filterMap.mp hm
  exact apart (List.mem_filterMap.mpr ⟨e, List.mem_cons_of_mem _ he', q⟩)
theorem Down.again (x : Down X pins B a cls d σ H sI s) {h : Heap} (fl : HandSPX.FlyingZ B (X.env :: X.outer) a (Zc cls d) h) (up : s.heap.UpToSlots h) : Down X pins B a cls d σ H sI { s with heap := h } :=
  ⟨x.ok, x.I, x.nb, x.up.trans up, fl, x.hf, x.na, x.os, x.ag⟩
/-- the class that a clause names, tested -/
theorem Down.test (x : Down X pins B a cls d σ H sI s) {n : Str} {np : Pos} {c : Value} {b : Bool} (hc : Names X n c) (hb : PySem.W.exmOne X.K cls c = some b) {α : Type} {f : Value → Sem α} {Q : α → Shared → Prop} {E : Value → Shared → Prop}
    (h : wpAny (model X.prog X.w) (X.A.mark (some (.ref a))) (f c) Q E s) : wpAny (model X.prog X.w) (X.A.mark (some (.ref a))) (eval (.Name n np) X.env) (fun v s' => wpAny (model X.prog X.w) (X.A.mark (some (.ref a))) (f v) Q E s') E s := by
  obtain ⟨oe, he, hz, _, S⟩ := x.here
  obtain ⟨hg, hdbg, hm | ⟨hm, hv, hn⟩⟩ := hc
  · exact ld_glob (X := X.suite a ((a, oe) :: (X.pn ++ pins))) S hg hm h hdbg
  · exact ld_blt (X := X.suite a ((a, oe) :: (X.pn ++ pins))) S hg hm hv h hn hdbg
theorem Down.looks (x : Down X pins B a cls d σ H sI s) {c : Value} {b : Bool} (hb : PySem.W.exmOne X.K cls c = some b) : ∃ oe, s.heap.get? a = some oe ∧ PySem.W.Looks (model X.prog X.w) s.heap (typeOf (.ref a)) cls ∧ X.K.In s.heap := by
  obtain ⟨oe, he, hz, _, S⟩ := x.here
  exact ⟨oe, he, fun A Q E s k q => wpAny_typeOf_ref (k _ _ he) (by rw [hz.1]; exact q), (x.I.landed x.nb x.fl.1 x.up x.os x.ag).kIn⟩
theorem clauses_go {hds : List ExceptHandler} {W : WD} (hN : X.N.Nodup) (hk : Clauses X hds W) : ∀ {s : Shared}, Down X pins B a cls d σ H sI s → W D cls d σ H → wpAny (model X.prog X.w) X.A (handleBy (.ref a) X.env hds) (SP X pins D) X.xe s := by
  induction hk with
  | nil => intro s _ w; exact w.elim
  | plain hc hsu r ih =>
    intro s x ⟨b, hb, yes, no⟩
    obtain ⟨oe, he, LT, kin⟩ := x.looks hb
    refine wpAny_handleBy_cons (codeAny_handlers_test ?_) (by intro q; cases q)
    refine x.test hc hb ((PySem.W.exm_one (M := model X.prog X.w) kin LT hb).here ?_)
    cases b with
    | false => exact ih x (no rfl)
    | true =>
      refine codeAny_handlers_suite (HandSPX.lands_againZ x.fl fun h4 fl4 up4 => ?_)
      have x4 := x.again fl4 up4
      obtain ⟨oe4, he4, hz4, hd4, S4⟩ := x4.here
      refine wpAny_mono ((hsu a oe4 cls d (X.pn ++ pins) hz4 hd4).run [] _ _ H _ S4 (yes rfl a x.na)) (fun f s6 hsp => ?_) (fun _ _ z => False.elim z)
      cases f with
      | next => exact let ⟨_, _, S6, q6⟩ := hsp; ⟨_, _, S6.unsuite x.ok, q6⟩
      | brk => exact let ⟨_, _, S6, q6⟩ := hsp; ⟨_, _, S6.unsuite x.ok, q6⟩
      | cont => exact let ⟨_, _, S6, q6⟩ := hsp; ⟨_, _, S6.unsuite x.ok, q6⟩
      | ret u => exact let ⟨_, _, _, S6, r6, q6⟩ := hsp; ⟨_, _, _, S6.unsuite x.ok, r6, q6⟩
  | @named xx n i c ts b₀ suite np pos' hds W hi hln hc hsu r ih =>
    intro s x ⟨b, hb, yes, no⟩
    obtain ⟨oe, he, LT, kin⟩ := x.looks hb
    refine wpAny_handleBy_cons (codeAny_handlers_test ?_) (by intro q; cases q)
    refine x.test hc hb ((PySem.W.exm_one (M := model X.prog X.w) kin LT hb).here ?_)
    cases b with
    | false => exact ih x (no rfl)
    | true =>
      refine codeAny_handlers_suite_as (HandSPX.lands_againZ x.fl fun h4 fl4 up4 => ?_)
      have x4 := x.again fl4 up4
      obtain ⟨oe4, he4, hz4, hd4, S4⟩ := x4.here
      refine store_ok (X := X.suite a ((a, oe4) :: (X.pn ++ pins))) (v := .ref a) S4 hN hi (.inl hln) rfl (fun s5 S5 => ?_) (.inr hln)
      refine wpAny_mono ((hsu a oe4 cls d (X.pn ++ pins) hz4 hd4).run [] s5 _ H _ S5 (yes rfl a x.na)) (fun f s6 hsp => ?_) (fun _ _ z => False.elim z)
      cases f with
      | next => exact let ⟨_, _, S6, q6⟩ := hsp; gone_ok (S6.unsuite x.ok) hN hi hln fun s7 J7 => ⟨_, _, J7, q6⟩
      | brk => exact let ⟨_, _, S6, q6⟩ := hsp; gone_ok (S6.unsuite x.ok) hN hi hln fun s7 J7 => ⟨_, _, J7, q6⟩
      | cont => exact let ⟨_, _, S6, q6⟩ := hsp; gone_ok (S6.unsuite x.ok) hN hi hln fun s7 J7 => ⟨_, _, J7, q6⟩
      | ret u => exact let ⟨_, _, _, S6, r6, q6⟩ := hsp; gone_ok (S6.unsuite x.ok) hN hi hln fun s7 J7 => ⟨_, _, _, J7, r6, q6⟩
end
/-- try with clauses of both kinds; every exception of the body is met by one of them -/
theorem ps_try_mix {X : Cx} {body : List Stmt} {h₀ : ExceptHandler} {hds : List ExceptHandler} {W : WD} {pos : Pos} {tb : WX → TS} (hs : X.stack = X.env :: X.outer) (hf : X.env.frame = some X.env.locals) (hN : X.N.Nodup)
    (hb : ∀ (W : WX) (pn : List (Addr × Obj)) (xe : Value → Shared → Prop), Takes (X.tr pn xe) W → PassesOwn (model X.prog X.w) X.A X.env xe → PSs (X.tr pn xe) body (tb W))
    (hh : Clauses X (h₀ :: hds) W) : PS X (.Try body (h₀ :: hds) [] [] pos) (fun D σ H => tb (W D) D σ H) := by
  refine ⟨fun pins s σ H D I h => wpAny_Try_except ?_⟩
  have ok := I.ok
  have hfr : X.A.frames = some (X.env :: X.outer) := ok.frames.trans (congrArg some hs)
  refine wpAny_mono ((hb (W D) (X.pn ++ pins) (fun e s₁ => wpAny (model X.prog X.w) X.A (noteFrame e X.env) (fun _ s₂ => wpAny (model X.prog X.w) X.A (setFlight e none) (fun _ s₃ =>
    wpAny (model X.prog X.w) X.A (handleBy e X.env (h₀ :: hds)) (SP X pins D) X.xe s₃) X.xe s₂) X.xe s₁) (fun u s' xx => ?_) PassesOwn.looking).run [] s σ H D (I.toTry _) h) (fun f s1 hsp => ?_) (fun e s1 he => he)
  · obtain ⟨a, B, sI, pins', σ', H', cls, d, rfl, J', nb, up, sky, na, os, ag, w⟩ := xx
    refine Sky.land Zc.steady hfr hf (by rw [← hs]; exact sky) fun h3 fl3 up3 => ?_
    exact clauses_go hN hh (pins := pins) (B := B) (sI := sI) ⟨ok, J'.ofTry ok, nb, up.trans up3, fl3, hf, na, os, ag⟩ w
  · cases f with
    | next => exact let ⟨_, _, J', q⟩ := hsp; wpAny_execs_nil ⟨_, _, J'.ofTry ok, q⟩
    | brk => exact let ⟨_, _, J', q⟩ := hsp; ⟨_, _, J'.ofTry ok, q⟩
    | cont => exact let ⟨_, _, J', q⟩ := hsp; ⟨_, _, J'.ofTry ok, q⟩
    | ret u => exact let ⟨_, _, _, J', r, q⟩ := hsp; ⟨_, _, _, J'.ofTry ok, r, q⟩
end L2
set_option Elab.async false
set_option linter.all false
set_option maxRecDepth 100000
set_option maxHeartbeats 4000000
namespace Lk
open PySem PySem.Spec PyProof.Rows L2
open He (ga ma)
section
variable {P : Program} {w : World} {K : PySem.W.Frag} {mg : Str → Option Value} {base : Heap}
/-- o.m(e, ..) whose exceptions may be met by a try -/
def cMethS (C : Addr) (m : Str) (sp : Sp) (E : L2.St → XK) (ta : TE) (t : TA) : TE := fun σ H Q => ta σ H fun x H1 => ∃ a dx fs, x = .ref a ∧ H1 a = some (.ins C dx fs) ∧ fs.lookup m = none ∧ t σ H1 fun vs H2 => sp (x :: vs) H2 Q (E σ)
theorem pe_metS {X : Cx} {CX : CXT} {k : Nat} {f C : Addr} {ps : List Str} {sp : Sp} {E : L2.St → XK} {m : Str} {pos apos : Pos} {e o : Expr} {es : List Expr} {ta : TE} {t : TA} {pl : Sem Bool} (he : PE X o ta) (c : Cls X.K C) (hm : Meth X.K C m f) (D : DefX X CX k f ps sp) (hr : Room k X.A) (hx : ∀ σ, PassesAt CX X σ (E σ)) (ha : PA X (e :: es) t)
    (hst : starEach (e :: es) X.env = (false, eval e X.env) :: starEach es X.env := by rfl) (hpl : (backTo pos (starEach es X.env)).any (·.1) = false := by rfl)
    (ht : eval (.Call (.Attribute o m apos) (e :: es) [] pos) X.env = (do
      let ov ← eval o X.env
      standAt apos.atName
      let (f, first) ← holding [ov] (getMethod ov m pl)
      callWith pos f first (backTo pos (starEach (e :: es) X.env)) (backToKw pos (keywordEach [] X.env))) := by rfl) :
    PE X (.Call (.Attribute o m apos) (e :: es) [] pos) (cMethS C m sp E ta t) := by
  obtain ⟨fd, F, b, z⟩ := D.ex
  refine ⟨fun pins s σ H Q I h => PySem.W.methodCall_KW (pl := pl) (thn (he.run pins s σ H _ I h) fun u s1 ⟨x, H1, I1, rx, a, dx, fs, ex, ea, l, q⟩ => ?_) ht⟩
  subst ex
  cases rx
  exact getmeth_ok I1 ea c hm l (PySem.W.callWith_K (first := [.ref a]) (h₀ := X.base) I.ok.mod.kin hm.kp (thn (ha.run pos pins s1 σ H1 _ I1 q) fun us s2 ⟨vs, H2, I2, r, q2⟩ => ⟨I2.kIn, run_fnS (us := .ref a :: us) (vs := .ref a :: vs) F hr b (hx σ) I2 (.cons rfl r) q2⟩) hst hpl)
def ansV : Ans → List V
  | .told s => [.str "told", .str s]
  | .book n => [.str "book", .str n]
  | .kind => [.str "kind"]
  | .bad => [.str "bad"]
  | .undo => [.str "undo"]
def spLTell (K : PySem.W.Frag) : Sp := fun vs H Q _ => ∃ (d g : Addr) (o : HO) (tabs : List Tab) (t : Tab) (c : Cmd), vs = [.ref d, .str (lineT (deedC c :: argsC c))] ∧ DeskAt K g H d (tabs ++ [t]) ∧ TsOk (tabs ++ [t]) ∧ CmdOk c ∧ H g = some o ∧ g ≠ d ∧
  ∀ H' p, But d H H' → DeskAt K g H' d (tellM tabs t c).2 → H' p = some (.tup (ansV (tellM tabs t c).1)) → Q (.ref p) H'
theorem ok_law_tell (PO : ProgOk P) (T : Tx K mg) (F : Fx K) (X : Ex w K) : DefOk P w K mg base (L2.CX P w) 10 (ga K "_law_tell") ["_law_desk", "_law_line"] (spLTell K) := by
  have D1 := ok_Desk_tell (base := base) PO T F X
  have nd := sc_law_tell.nd
  refine def_ok F.f_law_tell bd_law_tell sc_law_tell (fun vs H Q E h => ?_) (fun cdv A outer s0 H vs Q E hr h => ?_)
  · obtain ⟨d, g, o, tabs, t, c, rfl, _⟩ := h
    rfl
  · obtain ⟨d, g, o, tabs, t, c, rfl, Dk, TS, cok, hg, gd, k⟩ := h
    refine ⟨_, pss_cons (ps_set (i := 2) nd rfl (Or.inl rfl) (pe_tup (pa_cons pe_str pa_nil)))
      (pss_cons (ps_try_mix rfl rfl nd (fun W pn xe tk _ => pss_one (ps_set (i := 2) nd rfl (Or.inl rfl) (pe_tup (pa_cons pe_str (pa_cons (pe_metS (pv 0) T.c_Desk T.m_Desk_tell D1 hr (fun σ => passAt tk σ) (pa_cons (pv 1) pa_nil)) pa_nil)))))
        (.named (i := 3) rfl rfl ⟨rfl, by decide, .inl T.g_NoBook⟩ (fun a oe cls d pn hz hf => pss_one (ps_set (i := 2) nd rfl (Or.inl rfl) (pe_tup (pa_cons pe_str (pa_cons (pe_xf X.xf X.nb hz hf (pv 3)) pa_nil)))))
        (.plain ⟨rfl, by decide, .inl T.g_NoKind⟩ (fun a oe cls d pn hz hf => pss_one (ps_set (i := 2) nd rfl (Or.inl rfl) (pe_tup (pa_cons pe_str pa_nil))))
        (.plain ⟨rfl, by decide, .inl T.g_BadKind⟩ (fun a oe cls d pn hz hf => pss_one (ps_set (i := 2) nd rfl (Or.inl rfl) (pe_tup (pa_cons pe_str pa_nil))))
        (.plain ⟨rfl, by decide, .inl T.g_NothingDone⟩ (fun a oe cls d pn hz hf => pss_one (ps_set (i := 2) nd rfl (Or.inl rfl) (pe_tup (pa_cons pe_str pa_nil)))) .nil)))))
      (pss_one (ps_ret (pv 2)))), ?_⟩
    refine ⟨l1, fun z hz => ?_⟩
    have sz : Same H (upd H z (.tup [.str "nothing"])) := Same.new hz
    have D2 := Dk.same sz
    obtain ⟨dx, tp, as, q1, _, _⟩ := id D2
    refine ⟨_, rfl, d, dx, _, rfl, q1, rfl, _, rfl, d, g, o, tabs, t, c, rfl, D2, TS, cok, sz _ _ hg, ?_⟩
    have bz : ∀ H', But d (upd H z (.tup [.str "nothing"])) H' → But d H H' := fun H' b y u n h => b y u n (sz y u h)
    have pp : ∀ {H' : Hp} {p : Addr} {xs : List V}, H' p = none → But d (upd H z (.tup [.str "nothing"])) H' → But d H (upd H' p (.tup xs)) := fun {H' p xs} hp b y u n h => Same.new hp y u (bz H' b y u n h)
    cases hA : tellM tabs t c with
    | mk an ts =>
    rw [hA] at k
    cases an with
    | told s => exact fun H' b Dk' => ⟨l2, fun p hp => ⟨_, rfl, k _ p (pp hp b) (Dk'.same (Same.new hp)) upd_same⟩⟩
    | book n => exact fun H' dd b Dk' hdd => ⟨true, T.x_NoBook_NoBook, fun _ a ha => ⟨_, rfl, rfl, rfl, dd, _, _, rfl, hdd, rfl, l2, fun p hp => ⟨_, rfl, k _ p (pp hp b) (Dk'.same (Same.new hp)) upd_same⟩⟩, fun c => nomatch c⟩
    | kind => exact fun H' b Dk' => ⟨false, T.x_NoKind_NoBook, (fun c => nomatch c), fun _ => ⟨true, T.x_NoKind_NoKind, fun _ a ha => ⟨l1, fun p hp => ⟨_, rfl, k _ p (pp hp b) (Dk'.same (Same.new hp)) upd_same⟩⟩, fun c => nomatch c⟩⟩
    | bad => exact fun H' b Dk' => ⟨false, T.x_BadKind_NoBook, (fun c => nomatch c), fun _ => ⟨false, T.x_BadKind_NoKind, (fun c => nomatch c), fun _ => ⟨true, T.x_BadKind_BadKind, fun _ a ha => ⟨l1, fun p hp => ⟨_, rfl, k _ p (pp hp b) (Dk'.same (Same.new hp)) upd_same⟩⟩, fun c => nomatch c⟩⟩⟩
    | undo => exact fun H' b Dk' => ⟨false, T.x_NothingDone_NoBook, (fun c => nomatch c), fun _ => ⟨false, T.x_NothingDone_NoKind, (fun c => nomatch c), fun _ => ⟨false, T.x_NothingDone_BadKind, (fun c => nomatch c), fun _ => ⟨true, T.x_NothingDone_NothingDone, fun _ a ha => ⟨l1, fun p hp => ⟨_, rfl, k _ p (pp hp b) (Dk'.same (Same.new hp)) upd_same⟩⟩, fun c => nomatch c⟩⟩⟩⟩
end
end Lk
set_option Elab.async false
set_option linter.all false
set_option maxRecDepth 100000
set_option maxHeartbeats 4000000
namespace Lk
open PySem PySem.Spec PyProof.Rows L2
open He (ga ma)
section
variable {P : Program} {w : World} {K : PySem.W.Frag} {mg : Str → Option Value} {base : Heap}
/-! ### the flow of numbers -/
def FlowAt (H : Hp) (f g : Addr) : Prop := ∃ (ns : List Int) (a b c : Int), H f = some (.lst [.ref g, .int a, .int b, .int c]) ∧ H g = some (.lst (ns.map V.int))
theorem flow_ne {H : Hp} {f g x : Addr} {y : V} {r : List V} {ns : List Int} (h1 : H f = some (.lst (.ref x :: r))) (h2 : H g = some (.lst (ns.map V.int))) : f ≠ g := ne_of h1 h2 (by
  intro c
  injection c with c
  cases ns with
  | nil => cases c
  | cons a b => cases c)
theorem But2.trans {a b : Addr} {H H1 H2 : Hp} (x : But2 a b H H1) (y : But2 a b H1 H2) : But2 a b H H2 := fun c o n1 n2 h => y c o n1 n2 (x c o n1 n2 h)
def spDraw : Sp := fun vs H Q _ => ∃ (f g : Addr) (m : Nat), vs = [.ref f, vi m] ∧ FlowAt H f g ∧ 0 < m ∧ m ≤ 1000 ∧ ∀ n H', n < m → FlowAt H' f g → But2 f g H H' → Q (vi n) H'
theorem ok_law_draw (T : Tx K mg) (F : Fx K) : DefOk P w K mg base CX0 1 (ga K "_law_draw") ["_law_flow_here", "_law_many"] spDraw := by
  have nd := sc_law_draw.nd
  refine def0 F.f_law_draw bd_law_draw sc_law_draw (fun vs H Q E h => ?_) (fun cdv A outer s0 H vs Q E hr h => ?_)
  · obtain ⟨f, g, m, rfl, _⟩ := h
    rfl
  · obtain ⟨f, g, m, rfl, FA, m0, m1, k⟩ := h
    refine ⟨_, pss_cut (ps_if (pw_and (pt_cmpR op_eq (pe_ix ix_list (pv 0) pe_int (fun _ _ => rfl)) pe_int (nomark _)) (pw_and1 (pt_cmpR op_gt (pe_callB call_len (by rfl) T.b_len (by decide +kernel) (pa_cons (pe_ix ix_list (pv 0) pe_int (fun _ _ => rfl)) pa_nil)) pe_int (nomark _)))).pt
        (pss_cons (ps_set (i := 2) nd rfl (Or.inl rfl) (pe_callB call_abs (by rfl) T.b_abs (by decide +kernel) (pa_cons (pe_callTy call_int1 (by rfl) T.b_int (by decide +kernel) (pa_cons (pe_bm PySem.F.plainAttrs_list PySem.F.slot_list_pop PySem.F.type_list_pop mt_popAt (pe_ix ix_list (pv 0) pe_int (fun _ _ => rfl)) (pa_cons pe_int pa_nil)) pa_nil)) pa_nil)))
        (pss_cons (ps_asg (pe_op op_mod (pe_op op_add (pe_callTy call_int1 (by rfl) T.b_int (by decide +kernel) (pa_cons (pe_ix ix_list (pv 0) pe_int (fun _ _ => rfl)) pa_nil)) (pv 2)) pe_int) (pg_sub (pv 0) pe_int set_list))
        (pss_one (ps_if (pt_cmpR op_ge (pv 2) (pe_op op_pow pe_int pe_int) (nomark _)) (pss_one (ps_asg (pv 2) (pg_sub (pv 0) pe_int set_list))) pss_nil)))) pss_nil)
      (pss_cons (ps_if (pt_cmpR op_gt (pe_ix ix_list (pv 0) pe_int (fun _ _ => rfl)) pe_int (nomark _))
        (pss_cons (ps_set (i := 3) nd rfl (Or.inl rfl) (pe_op op_mod (pe_callTy call_int1 (by rfl) T.b_int (by decide +kernel) (pa_cons (pe_ix ix_list (pv 0) pe_int (fun _ _ => rfl)) pa_nil)) (pv 1)))
        (pss_cons (ps_asg (pe_op op_fdiv (pe_callTy call_int1 (by rfl) T.b_int (by decide +kernel) (pa_cons (pe_ix ix_list (pv 0) pe_int (fun _ _ => rfl)) pa_nil)) (pv 1)) (pg_sub (pv 0) pe_int set_list))
        (pss_one (ps_ret (pv 3))))) pss_nil)
      (pss_cons (ps_asg (pe_op op_add (pe_ix ix_list (pv 0) pe_int (fun _ _ => rfl)) pe_int) (pg_sub (pv 0) pe_int set_list))
      (pss_cut (ps_set (i := 4) nd rfl (Or.inl rfl) (pe_op op_mod (pe_op op_add (pe_op op_add (pe_op op_mul (pe_callTy call_int1 (by rfl) T.b_int (by decide +kernel) (pa_cons (pe_ix ix_list (pv 0) pe_int (fun _ _ => rfl)) pa_nil)) pe_int) (pe_op op_mul pe_int (pe_callTy call_int1 (by rfl) T.b_int (by decide +kernel) (pa_cons (pe_ix ix_list (pv 0) pe_int (fun _ _ => rfl)) pa_nil)))) pe_int) pe_int))
      (pss_cut (ps_set (i := 4) nd rfl (Or.inl rfl) (pe_op op_mod (pe_op op_mul (pv 4) (pe_op op_add (pe_op op_fdiv (pv 4) pe_int) pe_int)) pe_int))
      (pss_cut (ps_set (i := 4) nd rfl (Or.inl rfl) (pe_op op_mod (pe_op op_mul (pv 4) (pe_op op_add (pe_op op_fdiv (pv 4) pe_int) pe_int)) pe_int))
      (pss_cons (ps_asg (pv 4) (pg_sub (pv 0) pe_int set_list))
      (pss_one (ps_ret (pe_op op_mod (pe_op op_fdiv (pv 4) pe_int) (pv 1)))))))))), ?_⟩
    refine ⟨fun σ H' => ∃ v2, σ = [some (.ref f), some (vi m), v2, none, none] ∧ FlowAt H' f g ∧ But2 f g H H', ?_, ?_⟩
    · obtain ⟨ns, a, b, c, h1, h2⟩ := id FA
      have nfg : f ≠ g := flow_ne (y := .non) h1 h2
      refine ⟨_, rfl, f, _, 1, _, rfl, rfl, .of h1, rfl, rfl, _, rfl, ?_⟩
      have skip : ∃ v2, L2.start N_law_draw [V.ref f, vi m] = [some (.ref f), some (vi m), v2, none, none] ∧ FlowAt H f g ∧ But2 f g H H := ⟨none, rfl, FA, But2.refl _ _ _⟩
      cases hd : decide (V.int a = V.int 0) with
      | false =>
        refine iteF (A := True) ?_
        refine iteF (A := True) ?_
        exact skip
      | true =>
        refine iteT (B := True) ?_
        refine ⟨_, rfl, f, _, 0, _, rfl, rfl, .of h1, rfl, _, _, rfl, .inl ⟨_, .of h2, rfl⟩, _, _, rfl, rfl, _, rfl, ?_⟩
        cases ns with
        | nil =>
          refine iteF (A := True) ?_
          exact skip
        | cons n r =>
          rw [decide_eq_true (by rw [List.length_map, List.length_cons]; omega)]
          refine iteT (B := True) ?_
          refine ⟨_, rfl, f, _, 0, _, rfl, rfl, .of h1, rfl, .inl ⟨rfl, _, .of h2⟩, g, _, 0, 0, V.int n, rfl, rfl, h2, by decide, by decide, (ixN_seq (j := 0) (ixN_nat (n := ((n :: r).map V.int).length) (k := 0) (by rw [List.length_map, List.length_cons]; omega))).1, rfl, .inl ⟨n, rfl, n, rfl, ?_⟩⟩
          have h1' : upd H g (.lst (((n :: r).map V.int).eraseIdx 0)) f = some (.lst [.ref g, .int a, .int b, .int c]) := by rw [upd_ne nfg]; exact h1
          have h2' : upd H g (.lst (((n :: r).map V.int).eraseIdx 0)) g = some (.lst (r.map V.int)) := upd_same
          have b1 : But2 f g H (upd H g (.lst (((n :: r).map V.int).eraseIdx 0))) := (But2.refl _ _ _).upd2
          generalize upd H g (.lst (((n :: r).map V.int).eraseIdx 0)) = H1 at h1' h2' b1 ⊢
          refine ⟨_, rfl, f, _, 2, _, rfl, rfl, .of h1', rfl, .inl ⟨b, rfl, _, rfl, _, _, rfl, rfl, _, _, rfl, rfl, (show (0 : Int) < 2147483647 by decide), ?_⟩⟩
          refine ⟨_, rfl, f, _, 2, 2, rfl, rfl, h1', rfl, ?_⟩
          generalize hcell : (if n < 0 then -n else n) = cell
          refine ⟨_, rfl, 10, 18, rfl, rfl, ⟨by decide, by decide, by decide⟩, _, _, rfl, rfl, _, rfl, ?_⟩
          have g2 : ∀ z : Int, upd H1 f (.lst [.ref g, .int a, .int z, .int c]) g = some (.lst (r.map V.int)) := fun z => by rw [upd_ne nfg.symm]; exact h2'
          cases hdc : decide ((10 : Int) ^ (18 : Int).toNat ≤ cell) with
          | false =>
            refine iteF (A := True) ?_
            exact ⟨_, rfl, ⟨r, a, (b + cell) % 2147483647, c, upd_same, g2 _⟩, b1.upd1⟩
          | true =>
            refine iteT (B := True) ?_
            exact ⟨_, rfl, _, rfl, f, _, 1, 1, rfl, rfl, upd_same, rfl, ⟨_, rfl, ⟨r, cell, (b + cell) % 2147483647, c, upd_same, by rw [upd_ne nfg.symm]; exact g2 _⟩, b1.upd1.upd1⟩⟩
    · rintro σ H1 ⟨v2, rfl, ⟨ns, a, b, c, h1, h2⟩, b1⟩
      have nfg : f ≠ g := flow_ne (y := .non) h1 h2
      have mz : (0 : Int) < ((m : Nat) : Int) := by exact_mod_cast m0
      refine ⟨_, rfl, f, _, 1, _, rfl, rfl, .of h1, rfl, _, _, rfl, rfl, _, rfl, ?_⟩
      cases hda : decide ((0 : Int) < a) with
      | true =>
        refine iteT (B := True) ?_
        refine ⟨_, rfl, f, _, 1, _, rfl, rfl, .of h1, rfl, .inl ⟨a, rfl, _, rfl, _, _, rfl, rfl, mz, ?_⟩⟩
        refine ⟨_, rfl, f, _, 1, _, rfl, rfl, .of h1, rfl, .inl ⟨a, rfl, _, rfl, _, _, rfl, rfl, ⟨mz, by omega⟩, ?_⟩⟩
        refine ⟨_, rfl, f, _, 1, 1, rfl, rfl, h1, rfl, _, rfl, ?_⟩
        have e1 : a % ((m : Nat) : Int) = (((a % ((m : Nat) : Int)).toNat : Nat) : Int) := (Int.toNat_of_nonneg (Int.emod_nonneg _ (by omega))).symm
        have e2 : (a % ((m : Nat) : Int)).toNat < m := by
          have := Int.emod_lt_of_pos a mz
          omega
        show Q (V.int (a % ((m : Nat) : Int))) _
        rw [e1]
        exact k _ _ e2 ⟨ns, a / ((m : Nat) : Int), b, c, upd_same, by rw [upd_ne nfg.symm]; exact h2⟩ b1.upd1
      | false =>
        refine iteF (A := True) ?_
        refine ⟨_, rfl, f, _, 3, _, rfl, rfl, .of h1, rfl, _, _, rfl, rfl, _, rfl, f, _, 3, 3, rfl, rfl, h1, rfl, ?_⟩
        have h3 : upd H1 f (.lst ([.ref g, .int a, .int b, .int c].set 3 (V.int (c + 1)))) f = some (.lst [.ref g, .int a, .int b, .int (c + 1)]) := upd_same
        have h4 : upd H1 f (.lst ([.ref g, .int a, .int b, .int c].set 3 (V.int (c + 1)))) g = some (.lst (ns.map V.int)) := by rw [upd_ne nfg.symm]; exact h2
        have b2 := b1.upd1 (o := .lst ([.ref g, .int a, .int b, .int c].set 3 (V.int (c + 1))))
        generalize upd H1 f (.lst ([.ref g, .int a, .int b, .int c].set 3 (V.int (c + 1)))) = H2 at h3 h4 b2 ⊢
        have small : ∀ (z : Int) (q : Int), 0 < q → q ≤ 2147483647 → 0 ≤ z % q ∧ z % q < 2147483647 := fun z q h0 h1 => ⟨Int.emod_nonneg _ (by omega), by have := Int.emod_lt_of_pos z h0; omega⟩
        refine ⟨fun σ H' => ∃ z : Int, (0 ≤ z ∧ z < 2147483647) ∧ σ = [some (.ref f), some (vi m), v2, none, some (.int z)] ∧ H2 = H', ⟨_, rfl, f, _, 2, _, rfl, rfl, .of h3, rfl, .inl ⟨b, rfl, _, _, rfl, rfl, .inr ⟨by decide, by decide⟩, _, rfl, f, _, 3, _, rfl, rfl, .of h3, rfl, .inl ⟨c + 1, rfl, _, _, rfl, rfl, .inl ⟨by decide, by decide⟩, _, _, rfl, rfl, _, _, rfl, rfl, _, _, rfl, rfl, (show (0 : Int) < 2147483647 by decide), _, small _ _ (by decide) (by decide), rfl, rfl⟩⟩⟩, ?_⟩
        rintro σ _ ⟨z, hz, rfl, rfl⟩
        refine ⟨fun σ H' => ∃ z : Int, (0 ≤ z ∧ z < 2147483647) ∧ σ = [some (.ref f), some (vi m), v2, none, some (.int z)] ∧ H2 = H', ⟨_, rfl, _, rfl, _, _, rfl, rfl, ⟨by decide, by decide⟩, _, _, rfl, rfl, _, _, rfl, rfl, .inl ⟨by omega, by omega⟩, _, _, rfl, rfl, (show (0 : Int) < 2147483647 by decide), _, small _ _ (by decide) (by decide), rfl, rfl⟩, ?_⟩
        rintro σ _ ⟨z, hz, rfl, rfl⟩
        refine ⟨fun σ H' => ∃ z : Int, (0 ≤ z ∧ z < 2147483647) ∧ σ = [some (.ref f), some (vi m), v2, none, some (.int z)] ∧ H2 = H', ⟨_, rfl, _, rfl, _, _, rfl, rfl, ⟨by decide, by decide⟩, _, _, rfl, rfl, _, _, rfl, rfl, .inl ⟨by omega, by omega⟩, _, _, rfl, rfl, (show (0 : Int) < 2147483399 by decide), _, small _ _ (by decide) (by decide), rfl, rfl⟩, ?_⟩
        rintro σ _ ⟨z, hz, rfl, rfl⟩
        refine ⟨_, rfl, _, rfl, f, _, 2, 2, rfl, rfl, h3, rfl, _, rfl, _, _, rfl, rfl, ⟨by decide, by decide⟩, _, rfl, _, _, rfl, rfl, mz, ?_⟩
        have e1 : z / 16 % ((m : Nat) : Int) = (((z / 16 % ((m : Nat) : Int)).toNat : Nat) : Int) := (Int.toNat_of_nonneg (Int.emod_nonneg _ (by omega))).symm
        have e2 : (z / 16 % ((m : Nat) : Int)).toNat < m := by
          have := Int.emod_lt_of_pos (z / 16) mz
          omega
        show Q (V.int (z / 16 % ((m : Nat) : Int))) _
        rw [e1]
        exact k _ _ e2 ⟨ns, a, z, c + 1, upd_same, by rw [upd_ne nfg.symm]; exact h4⟩ b2.upd1
end
end Lk
set_option Elab.async false
set_option linter.all false
set_option maxRecDepth 100000
set_option maxHeartbeats 4000000
namespace Lk
open PySem PySem.Spec PyProof.Rows L2
open He (ga ma)
section
variable {P : Program} {w : World} {K : PySem.W.Frag} {mg : Str → Option Value} {base : Heap}
def spFlow (K : PySem.W.Frag) : Sp := fun vs H Q _ => ∃ (a : Addr) (ns : List Int), vs = [.ref a] ∧ SqL K H a (ns.map V.int) ∧ ∀ f g H', Same H H' → FlowAt H' f g → H f = none → H g = none → Q (.ref f) H'
theorem ok_law_flow (T : Tx K mg) (F : Fx K) : DefOk P w K mg base CX0 1 (ga K "_law_flow") ["_law_script"] (spFlow K) := by
  refine def0 F.f_law_flow bd_law_flow sc_law_flow (fun vs H Q E h => ?_) (fun cdv A outer s0 H vs Q E hr h => ?_)
  · obtain ⟨a, ns, rfl, _⟩ := h
    rfl
  · obtain ⟨a, ns, rfl, ha, k⟩ := h
    refine ⟨_, pss_one (ps_ret (pe_lst (pa_cons (pe_callTy call_list_of (by rfl) T.b_list (by decide +kernel) (pa_cons (pv 0) pa_nil)) (pa_cons pe_int (pa_cons pe_int (pa_cons pe_int pa_nil)))))), ?_⟩
    refine ⟨_, rfl, a, _, rfl, .inl ha, fun g hg => ⟨l4, fun f hf => ?_⟩⟩
    have s1 : Same H (upd H g (.lst (ns.map V.int))) := Same.new hg
    have s2 := s1.trans (Same.new (o := .lst [V.ref g, V.int 0, V.int 12345, V.int 0]) hf)
    exact k f g _ s2 ⟨ns, 0, 12345, 0, upd_same, Same.new hf _ _ upd_same⟩ (s1.free hf) hg
theorem lotB_sorted {many : Nat} : ∀ (l : List Nat) (last : Int), l.Pairwise (· ≤ ·) → l.Nodup → (∀ x ∈ l, x < many ∧ last < (x : Int)) → lotB (many : Int) last (l.map fun x : Nat => (x : Int)) = true
  | [], _, _, _, _ => rfl
  | a :: r, last, hs, hn, hb => by
    obtain ⟨h1, h2⟩ := List.pairwise_cons.mp hs
    obtain ⟨n1, n2⟩ := List.nodup_cons.mp hn
    obtain ⟨b1, b2⟩ := hb a (by simp)
    show ((decide (last + 1 ≤ (a : Int)) && decide ((a : Int) ≤ (many : Int) - 1)) && lotB (many : Int) (a : Int) (r.map fun x : Nat => (x : Int))) = true
    rw [decide_eq_true (by omega), decide_eq_true (by omega), lotB_sorted r a h2 n2 (fun x m => ⟨(hb x (by simp [m])).1, by
      have c1 := h1 x m
      have c2 : a ≠ x := fun c => n1 (c ▸ m)
      omega⟩)]
    rfl
theorem parB_sort {many : Nat} {l : List Nat} (hn : l.Nodup) (hb : ∀ x ∈ l, x < many) (hl : l.length ≤ 6) : parB many (sortN l) = true := by
  have p := sortN_perm l
  unfold parB
  rw [lotB_sorted (sortN l) (-1) (sortN_sorted l) (p.nodup_iff.mpr hn) (fun x m => ⟨hb x (p.mem_iff.mp m), by omega⟩), decide_eq_true (by rw [p.length_eq]; exact hl)]
  rfl
theorem inV_vi (k : Nat) : ∀ l : List Nat, inV (vi k) (l.map vi) = decide (k ∈ l)
  | [] => rfl
  | a :: r => by
    have h : inV (vi k) ((a :: r).map vi) = (eqV (vi a) (vi k) || inV (vi k) (r.map vi)) := rfl
    rw [h, inV_vi k r]
    have e : eqV (vi a) (vi k) = decide (k = a) := by
      show (((a : Nat) : Int) == ((k : Nat) : Int)) = _
      rw [show (((a : Nat) : Int) == ((k : Nat) : Int)) = decide (((a : Nat) : Int) = ((k : Nat) : Int)) from rfl]
      exact decide_eq_decide.mpr (by omega)
    rw [e, ← Bool.decide_or]
    exact decide_eq_decide.mpr (by rw [List.mem_cons])
theorem flat_vi (l : List Nat) : (l.map vi).all flatV = true := by
  rw [List.all_map, List.all_eq_true]
  intro x _
  rfl
def spLPar : Sp := fun vs H Q _ => ∃ (f g : Addr) (many shape : Nat), vs = [.ref f, vi many, vi shape] ∧ FlowAt H f g ∧ many ≤ 100 ∧ shape < 4 ∧ ∀ a ns H', FlowAt H' f g → But2 f g H H' → TN H' a ns → parB many ns = true → (∀ o, H a = some o → H' a = some o) → Q (.ref a) H'
theorem shape_cases {s : Nat} (h : s < 4) : s = 0 ∨ s = 1 ∨ s = 2 ∨ s = 3 := by omega
theorem FlowAt.keep {H H' : Hp} {f g : Addr} (h : FlowAt H f g) (k : Same H H') : FlowAt H' f g := by
  obtain ⟨ns, a, b, c, h1, h2⟩ := h
  exact ⟨ns, a, b, c, k _ _ h1, k _ _ h2⟩
theorem But2.of {a b : Addr} {H H' : Hp} (s : Same H H') : But2 a b H H' := fun c o _ _ h => s c o h
theorem ok_law_parents (T : Tx K mg) (F : Fx K) : DefOk P w K mg base CX0 2 (ga K "_law_parents") ["_law_flow_here", "_law_many", "_law_shape"] spLPar := by
  have D1 := ok_law_draw (P := P) (w := w) (base := base) T F
  have nd := sc_law_parents.nd
  refine def0 F.f_law_parents bd_law_parents sc_law_parents (fun vs H Q E h => ?_) (fun cdv A outer s0 H vs Q E hr h => ?_)
  · obtain ⟨f, g, many, shape, rfl, _⟩ := h
    rfl
  · obtain ⟨f, g, many, shape, rfl, FA, hm, hsh, k⟩ := h
    refine ⟨_, pss_cons (ps_if (pt_cmpR op_eq (pv 1) pe_int (nomark _)) (pss_one (ps_ret (pe_tup pa_nil))) pss_nil)
      (pss_cut (ps_set (i := 3) nd rfl (Or.inl rfl) (pe_callB (call_min2 rfl) (by rfl) T.b_min (by decide +kernel) (pa_cons (pv 1) (pa_cons (pe_ix ix_list (pe_lst (pa_cons (pv 1) (pa_cons pe_int (pa_cons (pv 1) (pa_cons pe_int pa_nil))))) (pv 2) (fun _ _ => rfl)) pa_nil))))
      (pss_cons (ps_set (i := 4) nd rfl (Or.inl rfl) pe_int)
      (pss_cut (ps_if (pt_cmpR op_eq (pv 2) pe_int (nomark _)) (pss_one (ps_set (i := 4) nd rfl (Or.inl rfl) (pe_op op_sub (pv 1) (pv 3)))) pss_nil)
      (pss_cons (ps_set (i := 5) nd rfl (Or.inl rfl) (pe_cal D1 hr (by rfl) T.g_law_draw pass0 (pa_cons (pv 0) (pa_cons (pe_ix ix_list (pe_lst (pa_cons pe_int (pa_cons pe_int (pa_cons pe_int (pa_cons pe_int pa_nil))))) (pv 2) (fun _ _ => rfl)) pa_nil))))
      (pss_cut (ps_if (pt_cmpR op_eq (pv 2) pe_int (nomark _)) (pss_one (ps_set (i := 5) nd rfl (Or.inl rfl) (pe_op op_add (pv 5) pe_int))) pss_nil)
      (pss_cut (ps_set (i := 6) nd rfl (Or.inl rfl) (pe_lst pa_nil))
      (pss_cons (ps_for PassesOwn.never rfl (pi_range1 (by rfl) T.b_range (pa_cons (pv 5) pa_nil)) (pg_name (i := 7) nd rfl (Or.inl rfl))
        (pss_cut (ps_set (i := 8) nd rfl (Or.inl rfl) (pe_op op_add (pv 4) (pe_cal D1 hr (by rfl) T.g_law_draw pass0 (pa_cons (pv 0) (pa_cons (pv 3) pa_nil)))))
        (pss_one (ps_if (pt_cmpR op_notIn_seq (pv 8) (pv 6) (by with_unfolding_all rfl)) (pss_one (ps_expr (pe_bm PySem.F.plainAttrs_list PySem.F.slot_list_append PySem.F.type_list_append mt_append (pv 6) (pa_cons (pv 8) pa_nil)))) pss_nil))))
      (pss_one (ps_ret (pe_tupleOf (by rfl) T.b_tuple (pe_callB cr_sorted (by rfl) T.b_sorted (by decide +kernel) (pa_cons (pv 6) pa_nil)))))))))))), ?_⟩
    refine ⟨_, rfl, rfl, _, rfl, ?_⟩
    have e0 : decide (V.int ((many : Nat) : Int) = V.int 0) = decide (many = 0) := dec_vi many 0
    rw [e0]
    by_cases h0 : many = 0
    · rw [decide_eq_true h0]
      refine iteT (B := True) ?_
      refine ⟨l0, fun p hp => k p [] _ (FA.keep (Same.new hp)) (But2.of (Same.new hp)) upd_same rfl (Same.new hp p)⟩
    · rw [decide_eq_false h0]
      refine iteF (A := True) ?_
      refine ⟨fun σ H' => ∃ span : Nat, σ = [some (.ref f), some (vi many), some (vi shape), some (vi span), none, none, none, none, none] ∧ Same H H' ∧ 0 < span ∧ span ≤ many, ?_, ?_⟩
      · refine ⟨_, rfl, _, rfl, _, rfl, l4, fun p hp => ?_⟩
        have sp : Same H (upd H p (.lst [vi many, .int 3, vi many, .int 3])) := Same.new hp
        have fin : ∀ q : Nat, 0 < q → atI [vi many, V.int 3, vi many, V.int 3] ((shape : Nat) : Int) = some (vi q) → tVar 2 (L2.start N_law_parents [V.ref f, vi many, vi shape]) (upd H p (.lst [vi many, .int 3, vi many, .int 3])) fun y H2 => rIxL K (.ref p) y H2 fun v H3 => ∃ i j : Int, [vi many, v] = [.int i, .int j] ∧ (∃ span : Nat, (L2.start N_law_parents [V.ref f, vi many, vi shape]).set 3 (some (.int (if j < i then j else i))) = [some (.ref f), some (vi many), some (vi shape), some (vi span), none, none, none, none, none] ∧ Same H H3 ∧ 0 < span ∧ span ≤ many) := by
          intro q hq hat
          refine ⟨_, rfl, p, _, _, _, rfl, rfl, .of upd_same, hat, _, _, rfl, ?_⟩
          by_cases c : q < many
          · exact ⟨q, by rw [if_pos (by exact_mod_cast c)]; rfl, sp, hq, by omega⟩
          · exact ⟨many, by rw [if_neg (by exact_mod_cast c)]; rfl, sp, by omega, Nat.le_refl _⟩
        rcases shape_cases hsh with rfl | rfl | rfl | rfl
        · exact fin many (by omega) rfl
        · exact fin 3 (by decide) rfl
        · exact fin many (by omega) rfl
        · exact fin 3 (by decide) rfl
      · rintro σ H1 ⟨span, rfl, s1, h1, h2⟩
        refine ⟨fun σ H' => ∃ low : Nat, σ = [some (.ref f), some (vi many), some (vi shape), some (vi span), some (vi low), none, none, none, none] ∧ H1 = H' ∧ low + span ≤ many, ?_, ?_⟩
        · refine ⟨_, rfl, rfl, _, rfl, ?_⟩
          have e1 : decide (V.int ((shape : Nat) : Int) = V.int 1) = decide (shape = 1) := dec_vi shape 1
          rw [e1]
          by_cases hc : shape = 1
          · rw [decide_eq_true hc]
            refine iteT (B := True) ?_
            refine ⟨_, rfl, _, rfl, _, _, rfl, rfl, many - span, ?_, rfl, by omega⟩
            show [_, _, _, _, some (V.int (((many : Nat) : Int) - ((span : Nat) : Int))), _, _, _, _] = _
            rw [show ((many : Nat) : Int) - ((span : Nat) : Int) = ((many - span : Nat) : Int) by omega]
          · rw [decide_eq_false hc]
            refine iteF (A := True) ?_
            exact ⟨0, rfl, rfl, by omega⟩
        · rintro σ _ ⟨low, rfl, rfl, h3⟩
          refine ⟨_, rfl, l4, fun p hp => ?_⟩
          have sp : Same H1 (upd H1 p (.lst [.int 2, .int 2, .int 7, .int 2])) := Same.new hp
          have FA1 := FA.keep (s1.trans sp)
          have go : ∀ q : Nat, 0 < q → q ≤ 7 → (shape = 1 → q = 2) → atI [V.int 2, V.int 2, V.int 7, V.int 2] ((shape : Nat) : Int) = some (vi q) → ∃ q' : Nat, 0 < q' ∧ q' ≤ 7 ∧ (shape = 1 → q' = 2) ∧ atI [V.int 2, V.int 2, V.int 7, V.int 2] ((shape : Nat) : Int) = some (vi q') := fun q a b c d => ⟨q, a, b, c, d⟩
          have hq : ∃ q' : Nat, 0 < q' ∧ q' ≤ 7 ∧ (shape = 1 → q' = 2) ∧ atI [V.int 2, V.int 2, V.int 7, V.int 2] ((shape : Nat) : Int) = some (vi q') := by
            rcases shape_cases hsh with rfl | rfl | rfl | rfl
            · exact go 2 (by decide) (by decide) (by decide) rfl
            · exact go 2 (by decide) (by decide) (by decide) rfl
            · exact go 7 (by decide) (by decide) (by decide) rfl
            · exact go 2 (by decide) (by decide) (by decide) rfl
          obtain ⟨q, q0, q7, q1, hat⟩ := hq
          refine ⟨_, rfl, p, _, _, _, rfl, rfl, .of upd_same, hat, f, g, q, rfl, FA1, q0, by omega, fun n H2 hn F2 b2 => ?_⟩
          have B2 : But2 f g H H2 := (But2.of (s1.trans sp)).trans b2
          refine ⟨fun σ H' => ∃ wn : Nat, σ = [some (.ref f), some (vi many), some (vi shape), some (vi span), some (vi low), some (vi wn), none, none, none] ∧ H2 = H' ∧ wn ≤ 6, ?_, ?_⟩
          · refine ⟨_, rfl, rfl, _, rfl, ?_⟩
            have e1 : decide (V.int ((shape : Nat) : Int) = V.int 1) = decide (shape = 1) := dec_vi shape 1
            rw [e1]
            by_cases hc : shape = 1
            · rw [decide_eq_true hc]
              refine iteT (B := True) ?_
              have := q1 hc
              exact ⟨_, rfl, _, _, rfl, rfl, n + 1, rfl, rfl, by omega⟩
            · rw [decide_eq_false hc]
              refine iteF (A := True) ?_
              exact ⟨n, rfl, rfl, by omega⟩
          · rintro σ _ ⟨wn, rfl, rfl, hwn⟩
            refine ⟨fun σ H' => ∃ D, σ = [some (.ref f), some (vi many), some (vi shape), some (vi span), some (vi low), some (vi wn), some (.ref D), none, none] ∧ Same H2 H' ∧ H2 D = none ∧ LN H' D [], ⟨l0, fun D hD => ⟨D, rfl, Same.new hD, hD, upd_same⟩⟩, ?_⟩
            rintro σ H3 ⟨D, rfl, s3, hD, q3⟩
            have Df : D ≠ f := by
              obtain ⟨_, _, _, _, z1, _⟩ := F2
              exact (ne_of_none z1 hD).symm
            have Dg : D ≠ g := by
              obtain ⟨_, _, _, _, _, z1⟩ := F2
              exact (ne_of_none z1 hD).symm
            have HD : H D = none := by
              cases c : H D with
              | none => rfl
              | some o =>
                have := B2 D o Df Dg c
                rw [hD] at this
                cases this
            refine ⟨_, rfl, _, rfl, by omega, by omega, for_range (n := wn) (fun i σ H' => ∃ fd v7 v8, σ = [some (.ref f), some (vi many), some (vi shape), some (vi span), some (vi low), some (vi wn), some (.ref D), v7, v8] ∧ FlowAt H' f g ∧ But2 f g H H' ∧ LN H' D fd ∧ fd.Nodup ∧ (∀ x ∈ fd, x < many) ∧ fd.length ≤ i ∧ i ≤ wn)
              ⟨[], none, none, rfl, F2.keep s3, B2.trans (But2.of s3), q3, .nil, by simp, Nat.le_refl _, Nat.zero_le _⟩ ?_ ?_⟩
            · rintro i σ H4 hi ⟨fd, v7, v8, rfl, F4, B4, L4, nd4, lt4, len4, hi4⟩
              refine ⟨fun σ H' => ∃ n' : Nat, n' < span ∧ σ = [some (.ref f), some (vi many), some (vi shape), some (vi span), some (vi low), some (vi wn), some (.ref D), some (.int (0 + i)), some (vi (low + n'))] ∧ FlowAt H' f g ∧ But2 f g H4 H', ⟨_, rfl, _, rfl, _, rfl, f, g, span, rfl, F4, h1, by omega, fun n' H5 hn' F5 b5 => ⟨_, _, rfl, rfl, n', hn', ?_, F5, b5⟩⟩, ?_⟩
              · show [_, _, _, _, _, _, _, _, some (V.int (((low : Nat) : Int) + ((n' : Nat) : Int)))] = _
                rw [show ((low : Nat) : Int) + ((n' : Nat) : Int) = ((low + n' : Nat) : Int) by omega]
              rintro σ H5 ⟨n', hn', rfl, F5, b5⟩
              have L5 : LN H5 D fd := b5 D _ Df Dg L4
              refine ⟨_, rfl, _, rfl, D, _, rfl, .inl (.of L5), rfl, flat_vi fd, _, rfl, ?_⟩
              rw [if_pos rfl, inV_vi]
              by_cases hmem : low + n' ∈ fd
              · rw [decide_eq_true hmem]
                refine iteF (A := True) ?_
                exact ⟨fd, _, _, rfl, F5, B4.trans b5, L5, nd4, lt4, by omega, by omega⟩
              · rw [decide_eq_false hmem]
                refine iteT (B := True) ?_
                refine ⟨_, rfl, .inl ⟨rfl, _, .of L5⟩, _, rfl, D, _, vi (low + n'), rfl, rfl, L5, by rw [List.length_map]; exact small1000 (by omega), fd ++ [low + n'], _, _, rfl, ?_, ?_, ?_, ?_, app_all lt4 (by omega), by rw [List.length_append]; exact Nat.succ_le_succ len4, by omega⟩
                · obtain ⟨ns, a, b, c, z1, z2⟩ := F5
                  exact ⟨ns, a, b, c, by rw [upd_ne Df.symm]; exact z1, by rw [upd_ne Dg.symm]; exact z2⟩
                · exact fun c o n1 n2 h => by
                    rw [upd_ne (ne_of_none h HD)]
                    exact (B4.trans b5) c o n1 n2 h
                · show upd _ _ _ _ = _
                  rw [upd_same, List.map_append]
                  rfl
                · refine List.nodup_append.mpr ⟨nd4, by simp, ?_⟩
                  intro a ha b hb
                  rw [List.mem_singleton.mp hb]
                  exact fun c => hmem (c ▸ ha)
            · rintro σ H4 ⟨fd, v7, v8, rfl, F4, B4, L4, nd4, lt4, len4, hi4⟩
              refine ⟨_, rfl, D, fd.map (fun n : Nat => (n : Int)), rfl, .of (by rw [List.map_map]; exact L4), by rw [List.length_map]; omega, fun ns' p hp hs hpn => ?_⟩
              have en := sorted_eq hp hs
              subst en
              refine .inl ⟨p, _, rfl, .of upd_same, fun t ht => ?_⟩
              have s5 : Same H4 _ := (Same.new (o := .lst (((sortN fd).map (fun n : Nat => (n : Int))).map V.int)) hpn).trans (Same.new (o := .tup (((sortN fd).map (fun n : Nat => (n : Int))).map V.int)) ht)
              refine k t (sortN fd) _ (F4.keep s5) (B4.trans (But2.of s5)) ?_ (parB_sort nd4 lt4 (by omega)) ?_
              · show upd _ _ _ _ = _
                rw [upd_same, List.map_map]
                rfl
              · intro o ho
                by_cases c1 : t = f
                · exfalso
                  subst c1
                  obtain ⟨_, _, _, _, z1, _⟩ := F4
                  have := Same.new (o := .lst (((sortN fd).map (fun n : Nat => (n : Int))).map V.int)) hpn _ _ z1
                  rw [ht] at this
                  cases this
                · by_cases c2 : t = g
                  · exfalso
                    subst c2
                    obtain ⟨_, _, _, _, _, z1⟩ := F4
                    have := Same.new (o := .lst (((sortN fd).map (fun n : Nat => (n : Int))).map V.int)) hpn _ _ z1
                    rw [ht] at this
                    cases this
                  · exact s5 _ _ (B4 t o c1 c2 ho)
end
end Lk
set_option Elab.async false
set_option linter.all false
set_option maxRecDepth 100000
set_option maxHeartbeats 4000000
namespace Lk
open PySem PySem.Spec PyProof.Rows L2
open He (ga ma)
section
variable {P : Program} {w : World} {K : PySem.W.Frag} {mg : Str → Option Value} {base : Heap}
theorem sign_nm {c : Nat} : TL.tl (⟨#[c]⟩ : Str) = [c] := rfl
def spLName : Sp := fun vs H Q _ => ∃ (f g : Addr), vs = [.ref f] ∧ FlowAt H f g ∧ ∀ x H', NameOk x → FlowAt H' f g → But2 f g H H' → Q (.str x) H'
theorem ok_law_name (T : Tx K mg) (F : Fx K) : DefOk P w K mg base CX0 2 (ga K "_law_name") ["_law_flow_here"] spLName := by
  have D1 := ok_law_draw (P := P) (w := w) (base := base) T F
  have nd := sc_law_name.nd
  refine def0 F.f_law_name bd_law_name sc_law_name (fun vs H Q E h => ?_) (fun cdv A outer s0 H vs Q E hr h => ?_)
  · obtain ⟨f, g, rfl, _⟩ := h
    rfl
  · obtain ⟨f, g, rfl, FA, k⟩ := h
    refine ⟨_, pss_cut (ps_set (i := 1) nd rfl (Or.inl rfl) (pe_op op_add pe_int (pe_cal D1 hr (by rfl) T.g_law_draw pass0 (pa_cons (pv 0) (pa_cons pe_int pa_nil)))))
      (pss_one (ps_ret (pe_join pe_str (pe_lc (own := [("_law_turn", 2)]) (g := gName 2) (tt := tYes) (te := tOp rIxS (tC (.str "abcdefghijklmnopqrstuvwxyz")) (cCall spDraw E0 (tCons (tVar 0) (tCons (tC (.int 26)) tNil)))) rfl nd (pi_range1 (by rfl) T.b_range (pa_cons (pv 1) pa_nil)) (blkOk_by (N := N_law_name) (sc := defScope s_law_name) (by decide +kernel))
        (fun _ _ _ _ _ => pg_name (i := 2) nd rfl (Or.inl rfl)) (fun _ _ _ _ _ => pts_nil) (fun _ _ _ _ _ => pe_ix ix_str pe_str (pe_cal D1 hr (by rfl) T.g_law_draw pass0 (pa_cons (pv 0) (pa_cons pe_int pa_nil))) (fun _ _ => rfl)))))), ?_⟩
    refine ⟨fun σ H' => ∃ n : Nat, 1 ≤ n ∧ n ≤ 8 ∧ σ = [some (.ref f), some (vi n), none] ∧ FlowAt H' f g ∧ But2 f g H H', ⟨_, rfl, f, g, 8, rfl, FA, by decide, by decide, fun n H1 hn F1 b1 => ⟨_, _, rfl, rfl, n + 1, by omega, by omega, ?_, F1, b1⟩⟩, ?_⟩
    · show [_, some (V.int (1 + ((n : Nat) : Int))), _] = _
      rw [show 1 + ((n : Nat) : Int) = ((n + 1 : Nat) : Int) by omega]
    · rintro σ H1 ⟨n, n1, n8, rfl, F1, b1⟩
      refine ⟨⟨_, rfl⟩, _, rfl, _, rfl, by omega, by omega, fun D hD => ?_⟩
      have Df : D ≠ f := by
        obtain ⟨_, _, _, _, z1, _⟩ := F1
        exact (ne_of_none z1 hD).symm
      have Dg : D ≠ g := by
        obtain ⟨_, _, _, _, _, z1⟩ := F1
        exact (ne_of_none z1 hD).symm
      refine lc_range (n := n) (fun i H' => FlowAt H' f g ∧ But2 f g H1 H' ∧ ∃ cs : List Nat, H' D = some (.lst ((cs.map fun c => (⟨#[c]⟩ : Str)).map V.str)) ∧ cs.length = i ∧ ∀ c ∈ cs, 97 ≤ c ∧ c ≤ 122) ⟨F1.keep (Same.new hD), But2.of (Same.new hD), [], upd_same, rfl, by simp⟩ ?_ ?_
      · rintro i H2 hi ⟨F2, b2, cs, q, hl, hc⟩
        refine ⟨rfl, ?_⟩
        refine iteT (B := True) ?_
        refine ⟨_, rfl, f, g, 26, rfl, F2, by decide, by decide, fun m H3 hm F3 b3 => ⟨_, _, 97 + m, rfl, rfl, by decide +kernel, ?_, _, b3 D _ Df Dg q, ?_, ?_, ?_, cs ++ [97 + m], ?_, by rw [List.length_append, hl]; rfl, app_all hc (by omega)⟩⟩
        · refine atI_nat (j := m) ?_
          show (TL.tl ("abcdefghijklmnopqrstuvwxyz" : Str))[m]? = some (97 + m)
          rw [tl_let, List.getElem?_map, List.getElem?_range hm]
          rfl
        · rw [List.length_map, List.length_map, hl]
          exact small1000 (by omega)
        · obtain ⟨ns, a, b, c, z1, z2⟩ := F3
          exact ⟨ns, a, b, c, by rw [upd_ne Df.symm]; exact z1, by rw [upd_ne Dg.symm]; exact z2⟩
        · exact fun c o m1 m2 h => by
            rw [upd_ne (ne_of_none h hD)]
            exact (b2.trans b3) c o m1 m2 h
        · rw [upd_same, List.map_append, List.map_append]
          rfl
      · rintro H2 ⟨F2, b2, cs, q, hl, hc⟩
        refine ⟨_, D, cs.map fun c => (⟨#[c]⟩ : Str), rfl, rfl, .inl (.of q), join_fit (k := 1) (m := 8) (fun y hy => ?_) (by rw [List.length_map]; omega) (by decide +kernel) (by decide), ?_⟩
        · obtain ⟨c, _, rfl⟩ := List.mem_map.mp hy
          exact Nat.le_refl 1
        · have et : TL.tl (Txt.join "" (cs.map fun c => (⟨#[c]⟩ : Str))) = cs := by
            rw [TL.join_eq, TL.tl_join]
            have e0 : TL.tl ("" : Str) = [] := by decide +kernel
            rw [e0, joinL_nil, List.map_map]
            clear q hl hc
            induction cs with
            | nil => rfl
            | cons c r ih =>
              rw [List.map_cons, List.flatten_cons, ih]
              rfl
          exact k _ H2 ⟨by rw [TL.len_tl, et]; omega, by rw [TL.len_tl, et]; omega, fun c m => hc c (by rw [et] at m; exact m)⟩ F2 (b1.trans b2)
/-! ### lots of forebears -/
def addK (fd : List Nat) (k : Nat) : List Nat := if k ∈ fd then fd else fd ++ [k]
def lotM (ls : List (List Nat)) (r : List Nat) : List Nat := r.foldl (fun fd p => (ls.getD p []).foldl addK fd) [ls.length]
def lotsM (rows : List (List Nat)) : List (List Nat) := rows.foldl (fun ls r => ls ++ [lotM ls r]) []
theorem addK_in {fd : List Nat} {k : Nat} (h : k ∈ fd) : addK fd k = fd := if_pos h
theorem addK_out {fd : List Nat} {k : Nat} (h : k ∉ fd) : addK fd k = fd ++ [k] := if_neg h
theorem addK_len (fd : List Nat) (k : Nat) : (addK fd k).length ≤ fd.length + 1 := by
  unfold addK
  split
  · exact Nat.le_succ _
  · rw [List.length_append]
    exact Nat.le_refl _
def spLLot : Sp := fun vs H Q _ => ∃ (l a : Addr) (as : List Addr) (ls : List (List Nat)) (r : List Nat), vs = [.ref l, .ref a] ∧ H l = some (.lst (as.map V.ref)) ∧ AllAt (LN H) as ls ∧ TN H a r ∧ (∀ p ∈ r, p < ls.length) ∧ (∀ x ∈ ls, x.length ≤ 20) ∧ r.length ≤ 20 ∧
  ∀ D H', Same H H' → H D = none → LN H' D (lotM ls r) → Q (.ref D) H'
theorem ok_law_lot (T : Tx K mg) (F : Fx K) : DefOk P w K mg base CX0 1 (ga K "_law_lot") ["_law_lots_here", "_law_parents_here"] spLLot := by
  have nd := sc_law_lot.nd
  refine def0 F.f_law_lot bd_law_lot sc_law_lot (fun vs H Q E h => ?_) (fun cdv A outer s0 H vs Q E hr h => ?_)
  · obtain ⟨l, a, as, ls, r, rfl, _⟩ := h
    rfl
  · obtain ⟨l, a, as, ls, r, rfl, hl, hls, ha, hp, hsz, hr20, k⟩ := h
    refine ⟨_, pss_cut (ps_set (i := 2) nd rfl (Or.inl rfl) (pe_lst (pa_cons (pe_callB call_len (by rfl) T.b_len (by decide +kernel) (pa_cons (pv 0) pa_nil)) pa_nil)))
      (pss_cons (ps_for PassesOwn.never rfl (pi_tup (pv 1)) (pg_name (i := 3) nd rfl (Or.inl rfl))
        (pss_one (ps_for PassesOwn.never rfl (pi_list (pe_ix ix_list (pv 0) (pv 3) (fun _ _ => rfl))) (pg_name (i := 4) nd rfl (Or.inl rfl))
          (pss_one (ps_if (pt_cmpR op_notIn_seq (pv 4) (pv 2) (by with_unfolding_all rfl)) (pss_one (ps_expr (pe_bm PySem.F.plainAttrs_list PySem.F.slot_list_append PySem.F.type_list_append mt_append (pv 2) (pa_cons (pv 4) pa_nil)))) pss_nil)))))
      (pss_one (ps_ret (pv 2)))), ?_⟩
    refine ⟨fun σ H' => ∃ D, σ = [some (.ref l), some (.ref a), some (.ref D), none, none] ∧ Same H H' ∧ H D = none ∧ LN H' D [ls.length], ⟨_, rfl, _, _, rfl, .inl ⟨_, .of hl, rfl⟩, l1, fun D hD => ⟨D, rfl, Same.new hD, hD, ?_⟩⟩, ?_⟩
    · show upd _ _ _ _ = _
      rw [upd_same, List.length_map, hls.1]
      rfl
    · rintro σ H1 ⟨D, rfl, s1, hD, L1⟩
      have ha1 := ha.same s1
      refine ⟨_, rfl, a, rfl, ⟨_, .of ha1⟩, for_tup (K := K) (a := a) (xs := r.map vi) (fun i σ H' => ∃ v3 v4, σ = [some (.ref l), some (.ref a), some (.ref D), v3, v4] ∧ Same H H' ∧ LN H' D ((r.take i).foldl (fun fd p => (ls.getD p []).foldl addK fd) [ls.length]) ∧ ((r.take i).foldl (fun fd p => (ls.getD p []).foldl addK fd) [ls.length]).length ≤ 1 + 20 * i ∧ i ≤ r.length)
        ⟨none, none, rfl, s1, L1, by show 1 ≤ 1 + 0; decide, Nat.zero_le _⟩ (fun i σ H' _ ⟨_, _, _, e, _⟩ => .of (ha.same e)) ?_ ?_⟩
      · rintro i x σ H2 hi ⟨v3, v4, rfl, e2, L2', len2, hi2⟩
        obtain ⟨p, hpi, rfl⟩ := get_map hi
        have hlt := hp p (List.mem_of_getElem? hpi)
        have hil : i < r.length := (List.getElem?_eq_some_iff.mp hpi).1
        have ep : ls[p]? = some ls[p] := List.getElem?_eq_getElem hlt
        obtain ⟨b, hb, rb⟩ := hls.get ep
        have eg : ls.getD p [] = ls[p] := getD_some ep
        have z20 := hsz ls[p] (List.getElem_mem hlt)
        generalize ls[p] = lp at rb eg z20
        have et : (r.take (i + 1)).foldl (fun fd p => (ls.getD p []).foldl addK fd) [ls.length] = lp.foldl addK ((r.take i).foldl (fun fd p => (ls.getD p []).foldl addK fd) [ls.length]) := by
          rw [take_snoc hpi, List.foldl_append, List.foldl_cons, List.foldl_nil, eg]
        generalize (r.take i).foldl (fun fd p => (ls.getD p []).foldl addK fd) [ls.length] = fd0 at L2' len2 et
        have hbD : b ≠ D := ne_of_none rb hD
        refine ⟨_, rfl, _, rfl, l, _, _, _, rfl, rfl, .of (e2 _ _ hl), atI_nat (map_get hb), b, rfl, ⟨_, .of (e2 _ _ rb)⟩, for_list (K := K) (a := b) (xs := lp.map vi) (fun j σ H' => ∃ v4, σ = [some (.ref l), some (.ref a), some (.ref D), some (vi p), v4] ∧ Same H H' ∧ LN H' D ((lp.take j).foldl addK fd0) ∧ ((lp.take j).foldl addK fd0).length ≤ 1 + 20 * i + j ∧ j ≤ lp.length)
          ⟨v4, rfl, e2, L2', len2, Nat.zero_le _⟩ (fun j σ H' _ ⟨_, _, e, _⟩ => .of (e _ _ rb)) ?_ ?_⟩
        · rintro j y σ H3 hj ⟨v4', rfl, e3, L3, len3, hj3⟩
          obtain ⟨kd, hk, rfl⟩ := get_map hj
          have hjl : j < lp.length := (List.getElem?_eq_some_iff.mp hk).1
          have ek : (lp.take (j + 1)).foldl addK fd0 = addK ((lp.take j).foldl addK fd0) kd := by
            rw [take_snoc hk, List.foldl_append]
            rfl
          generalize (lp.take j).foldl addK fd0 = fd at L3 len3 ek
          refine ⟨_, rfl, _, rfl, D, _, rfl, .inl (.of L3), rfl, flat_vi fd, _, rfl, ?_⟩
          rw [if_pos rfl, inV_vi]
          by_cases hm : kd ∈ fd
          · rw [decide_eq_true hm]
            rw [addK_in hm] at ek
            refine iteF (A := True) ?_
            exact ⟨_, rfl, e3, by rw [ek]; exact L3, by rw [ek]; omega, hjl⟩
          · rw [decide_eq_false hm]
            rw [addK_out hm] at ek
            refine iteT (B := True) ?_
            refine ⟨_, rfl, .inl ⟨rfl, _, .of L3⟩, _, rfl, D, _, vi kd, rfl, rfl, L3, by rw [List.length_map]; exact small1000 (by omega), _, rfl, same_upd hD e3, ?_, by rw [ek, List.length_append]; show fd.length + 1 ≤ _; omega, hjl⟩
            show upd _ _ _ _ = _
            rw [upd_same, ek, List.map_append]
            rfl
        · rintro σ H3 ⟨v4', rfl, e3, L3, len3, hj3⟩
          rw [List.length_map, List.take_length] at L3 len3
          exact ⟨_, _, rfl, e3, by rw [et]; exact L3, by rw [et]; omega, hil⟩
      · rintro σ H2 ⟨v3, v4, rfl, e2, L2', _, _⟩
        rw [List.length_map, List.take_length] at L2'
        exact ⟨_, rfl, k D H2 e2 hD L2'⟩
end
end Lk
set_option Elab.async false
set_option linter.all false
set_option maxRecDepth 100000
set_option maxHeartbeats 4000000
namespace Lk
open PySem PySem.Spec PyProof.Rows L2
open He (ga ma)
section
variable {P : Program} {w : World} {K : PySem.W.Frag} {mg : Str → Option Value} {base : Heap}
def WfL (rows : List (List Nat)) : Prop := ∀ (i : Nat) r, rows[i]? = some r → ∀ p ∈ r, p < i
theorem WfL.init {rows : List (List Nat)} {r : List Nat} (h : WfL (rows ++ [r])) : WfL rows ∧ ∀ p ∈ r, p < rows.length := by
  refine ⟨fun i s e => h i s ?_, fun p hp => h rows.length r ?_ p hp⟩
  · rw [List.getElem?_append_left (List.getElem?_eq_some_iff.mp e).1]
    exact e
  · rw [List.getElem?_append_right (Nat.le_refl _), Nat.sub_self]
    rfl
theorem mem_adds (x : Nat) : ∀ (l fd : List Nat), x ∈ l.foldl addK fd ↔ x ∈ fd ∨ x ∈ l
  | [], fd => by simp
  | a :: r, fd => by
    rw [List.foldl_cons, mem_adds x r]
    by_cases h : a ∈ fd
    · rw [addK_in h, List.mem_cons]
      constructor
      · rintro (c | c)
        · exact .inl c
        · exact .inr (.inr c)
      · rintro (c | rfl | c)
        · exact .inl c
        · exact .inl h
        · exact .inr c
    · rw [addK_out h, List.mem_append, List.mem_singleton, List.mem_cons]
      constructor
      · rintro ((c | c) | c)
        · exact .inl c
        · exact .inr (.inl c)
        · exact .inr (.inr c)
      · rintro (c | c | c)
        · exact .inl (.inl c)
        · exact .inl (.inr c)
        · exact .inr c
theorem nodup_adds : ∀ (l fd : List Nat), fd.Nodup → (l.foldl addK fd).Nodup
  | [], fd, h => h
  | a :: r, fd, h => by
    rw [List.foldl_cons]
    refine nodup_adds r _ ?_
    by_cases c : a ∈ fd
    · rw [addK_in c]
      exact h
    · rw [addK_out c]
      refine List.nodup_append.mpr ⟨h, by simp, fun y hy z hz => ?_⟩
      rw [List.mem_singleton.mp hz]
      exact fun e => c (e ▸ hy)
theorem lot_fold (ls : List (List Nat)) (x : Nat) : ∀ (r fd : List Nat), (x ∈ r.foldl (fun fd p => (ls.getD p []).foldl addK fd) fd ↔ x ∈ fd ∨ ∃ p ∈ r, x ∈ ls.getD p []) ∧ (fd.Nodup → (r.foldl (fun fd p => (ls.getD p []).foldl addK fd) fd).Nodup)
  | [], fd => ⟨by simp, id⟩
  | a :: r, fd => by
    obtain ⟨h1, h2⟩ := lot_fold ls x r ((ls.getD a []).foldl addK fd)
    rw [List.foldl_cons]
    refine ⟨?_, fun h => h2 (nodup_adds _ _ h)⟩
    rw [h1, mem_adds]
    constructor
    · rintro ((c | c) | ⟨p, m, c⟩)
      · exact .inl c
      · exact .inr ⟨a, by simp, c⟩
      · exact .inr ⟨p, by simp [m], c⟩
    · rintro (c | ⟨p, m, c⟩)
      · exact .inl (.inl c)
      · rcases List.mem_cons.mp m with rfl | m
        · exact .inl (.inr c)
        · exact .inr ⟨p, m, c⟩
theorem lotsM_snoc (rows : List (List Nat)) (r : List Nat) : lotsM (rows ++ [r]) = lotsM rows ++ [lotM (lotsM rows) r] := by
  unfold lotsM
  rw [List.foldl_append]
  rfl
theorem lotsM_len (rows : List (List Nat)) : (lotsM rows).length = rows.length := by
  induction rows using snocInd with
  | h0 => rfl
  | h1 rows r ih =>
    rw [lotsM_snoc, List.length_append, List.length_append, ih]
    rfl
theorem bits_snoc (rows : List (List Nat)) (r : List Nat) : (runM (rows ++ [r])).bits = (runM rows).bits ++ [bitNew (runM rows).bits r] := by
  rw [runM_snoc]
  rfl
theorem bit_fold (bits : List Nat) (x : Nat) : ∀ (r : List Nat) (b : Nat), (r.foldl (fun b p => b ||| bits.getD p 0) b).testBit x = (b.testBit x || r.any fun p => oneM bits p x)
  | [], b => by simp
  | a :: r, b => by
    rw [List.foldl_cons, bit_fold bits x r, Nat.testBit_or, List.any_cons, Bool.or_assoc]
    rfl
theorem one_new (bits r : List Nat) (x : Nat) : (bitNew bits r).testBit x = (decide (bits.length = x) || r.any fun p => oneM bits p x) := by
  unfold bitNew
  rw [bit_fold, Nat.testBit_two_pow]
theorem one_old {bits : List Nat} {b x p : Nat} (h : x < bits.length) : oneM (bits ++ [b]) x p = oneM bits x p := by
  unfold oneM
  rw [List.getD_eq_getElem?_getD, List.getElem?_append_left h, List.getD_eq_getElem?_getD]
theorem one_last (bits : List Nat) (b p : Nat) : oneM (bits ++ [b]) bits.length p = b.testBit p := by
  unfold oneM
  rw [List.getD_eq_getElem?_getD, List.getElem?_append_right (Nat.le_refl _), Nat.sub_self]
  rfl
/-- forebears: below, reflexive, transitive -/
structure Anc (n : Nat) (A : Nat → Nat → Bool) : Prop where
  le : ∀ x p, x < n → A x p = true → p ≤ x
  rf : ∀ x, x < n → A x x = true
  tr : ∀ x q p, x < n → A x q = true → A q p = true → A x p = true
theorem anc_ok (rows : List (List Nat)) (h : WfL rows) : Anc rows.length (oneM (runM rows).bits) := by
  induction rows using snocInd with
  | h0 => exact ⟨fun x p c => absurd c (Nat.not_lt_zero _), fun x c => absurd c (Nat.not_lt_zero _), fun x q p c => absurd c (Nat.not_lt_zero _)⟩
  | h1 rows r ih =>
    obtain ⟨h1, h2⟩ := h.init
    have ih := ih h1
    have bl := (bits_len rows).1
    rw [bits_snoc, List.length_append]
    have old : ∀ x p, x < rows.length → oneM ((runM rows).bits ++ [bitNew (runM rows).bits r]) x p = oneM (runM rows).bits x p := fun x p c => one_old (by rw [bl]; exact c)
    have new : ∀ p, oneM ((runM rows).bits ++ [bitNew (runM rows).bits r]) rows.length p = true ↔ p = rows.length ∨ ∃ q ∈ r, oneM (runM rows).bits q p = true := fun p => by
      have e := one_last (runM rows).bits (bitNew (runM rows).bits r) p
      rw [bl] at e
      rw [e, one_new, bl, Bool.or_eq_true, decide_eq_true_eq, List.any_eq_true]
      exact or_congr eq_comm Iff.rfl
    have cs : ∀ x, x < rows.length + 1 → x < rows.length ∨ x = rows.length := fun x c => by omega
    refine ⟨fun x p c hx => ?_, fun x c => ?_, fun x q p c h1 h2' => ?_⟩
    · rcases cs x c with c | rfl
      · rw [old x p c] at hx
        exact ih.le x p c hx
      · rcases (new p).mp hx with rfl | ⟨q, m, hq⟩
        · exact Nat.le_refl _
        · have := ih.le q p (h2 q m) hq
          have := h2 q m
          omega
    · rcases cs x c with c | rfl
      · rw [old x x c]
        exact ih.rf x c
      · exact (new _).mpr (.inl rfl)
    · rcases cs x c with c | rfl
      · rw [old x q c] at h1
        have := ih.le x q c h1
        rw [old q p (by omega)] at h2'
        rw [old x p c]
        exact ih.tr x q p c h1 h2'
      · rcases (new q).mp h1 with rfl | ⟨s, m, hs⟩
        · exact h2'
        · have a1 := h2 s m
          have a2 := ih.le s q a1 hs
          rw [old q p (by omega)] at h2'
          exact (new p).mpr (.inr ⟨s, m, ih.tr s q p a1 hs h2'⟩)
/-- the law's lots are the forebears -/
theorem lots_ok (rows : List (List Nat)) (h : WfL rows) : ∀ x, x < rows.length → (∀ p, p ∈ (lotsM rows).getD x [] ↔ oneM (runM rows).bits x p = true) ∧ ((lotsM rows).getD x []).Nodup := by
  induction rows using snocInd with
  | h0 => exact fun x c => absurd c (Nat.not_lt_zero _)
  | h1 rows r ih =>
    obtain ⟨h1, h2⟩ := h.init
    have ih := ih h1
    have bl := (bits_len rows).1
    have ll := lotsM_len rows
    rw [bits_snoc, lotsM_snoc, List.length_append]
    intro x c
    have c : x < rows.length + 1 := c
    by_cases cx : x < rows.length
    · have e : (lotsM rows ++ [lotM (lotsM rows) r]).getD x [] = (lotsM rows).getD x [] := by
        rw [List.getD_eq_getElem?_getD, List.getElem?_append_left (by rw [ll]; exact cx), List.getD_eq_getElem?_getD]
      rw [e]
      refine ⟨fun p => ?_, (ih x cx).2⟩
      rw [one_old (by rw [bl]; exact cx)]
      exact (ih x cx).1 p
    · obtain rfl : x = rows.length := by omega
      have e : (lotsM rows ++ [lotM (lotsM rows) r]).getD rows.length [] = lotM (lotsM rows) r := by
        rw [List.getD_eq_getElem?_getD, ← ll, List.getElem?_append_right (Nat.le_refl _), Nat.sub_self]
        rfl
      rw [e]
      refine ⟨fun p => ?_, (lot_fold (lotsM rows) 0 r [(lotsM rows).length]).2 (by simp)⟩
      have e2 := one_last (runM rows).bits (bitNew (runM rows).bits r) p
      rw [bl] at e2
      rw [e2, one_new, bl, Bool.or_eq_true, decide_eq_true_eq, List.any_eq_true]
      unfold lotM
      rw [(lot_fold (lotsM rows) p r [(lotsM rows).length]).1, List.mem_singleton, ll]
      constructor
      · rintro (c | ⟨q, m, c⟩)
        · exact .inl c.symm
        · exact .inr ⟨q, m, ((ih q (h2 q m)).1 p).mp c⟩
      · rintro (c | ⟨q, m, c⟩)
        · exact .inl c.symm
        · exact .inr ⟨q, m, ((ih q (h2 q m)).1 p).mpr c⟩
theorem lots_small (rows : List (List Nat)) (h : WfL rows) (hl : rows.length ≤ 19) : ∀ l ∈ lotsM rows, l.length ≤ 20 := by
  intro l m
  obtain ⟨x, hx⟩ := List.getElem?_of_mem m
  have hx1 := (List.getElem?_eq_some_iff.mp hx).1
  rw [lotsM_len] at hx1
  obtain ⟨a, b⟩ := lots_ok rows h x hx1
  rw [getD_some hx] at a b
  have an := anc_ok rows h
  have := List.Nodup.length_le_of_subset b (l₂ := List.range (x + 1)) (fun p hp => List.mem_range.mpr (by have := an.le x p hx1 ((a p).mp hp); omega))
  rw [List.length_range] at this
  omega
/-! ### the scheme answers by forebears -/
structure Sch (n : Nat) (A : Nat → Nat → Bool) (trip : List Trip) (held : List (List Nat)) : Prop where
  len : trip.length = n
  t1 : ∀ (p : Nat) (t : Trip), trip[p]? = some t → ∃ row, held[t.1]? = some row ∧ 1 ≤ t.2.1 ∧ row[t.2.1 - 1]? = some p
  t2 : ∀ (x : Nat) (t : Trip), trip[x]? = some t → ∀ s, t.2.2.getD s 0 = ((held.getD s []).filter (A x)).length
  t3 : ∀ row ∈ held, row.Pairwise (fun a b => A b a = true)
  t4 : ∀ row ∈ held, ∀ k ∈ row, k < n
theorem count_chain {A : Nat → Nat → Bool} {x p : Nat} : ∀ (row : List Nat) (n : Nat), row.Pairwise (fun a b => A b a = true) → (∀ a ∈ row, ∀ b, A x b = true → A b a = true → A x a = true) → 1 ≤ n → row[n - 1]? = some p → (n ≤ (row.filter (A x)).length ↔ A x p = true)
  | [], n, _, _, _, h => by simp at h
  | a :: r, n, hp, ht, hn, h => by
    obtain ⟨h1, h2⟩ := List.pairwise_cons.mp hp
    have ht' : ∀ b ∈ r, ∀ c, A x c = true → A c b = true → A x b = true := fun b m => ht b (by simp [m])
    by_cases ha : A x a = true
    · rw [List.filter_cons_of_pos ha, List.length_cons]
      by_cases h0 : n = 1
      · subst h0
        have : a = p := by simpa using h
        subst this
        exact ⟨fun _ => ha, fun _ => by omega⟩
      · obtain ⟨m, rfl⟩ : ∃ m, n = m + 2 := ⟨n - 2, by omega⟩
        have h' : r[m + 1 - 1]? = some p := by simpa using h
        have ih := count_chain (A := A) (x := x) (p := p) r (m + 1) h2 ht' (by omega) h'
        rw [← ih]
        omega
    · have hr : ∀ b ∈ r, ¬ A x b = true := fun b m c => ha (ht a (by simp) b c (h1 b m))
      have e0 : r.filter (A x) = [] := List.filter_eq_nil_iff.mpr hr
      rw [List.filter_cons_of_neg ha, e0]
      refine ⟨fun c => by simp at c; omega, fun c => ?_⟩
      exfalso
      have m := List.mem_of_getElem? h
      rcases List.mem_cons.mp m with rfl | m
      · exact ha c
      · exact hr p m c
theorem told_of {n : Nat} {A : Nat → Nat → Bool} {trip : List Trip} {held : List (List Nat)} (S : Sch n A trip held) (an : Anc n A) {x p : Nat} (hx : x < n) (hp : p < n) : toldM trip x p = A x p := by
  have ex : trip[x]? = some (trip[x]'(by rw [S.len]; exact hx)) := List.getElem?_eq_getElem _
  have ep : trip[p]? = some (trip[p]'(by rw [S.len]; exact hp)) := List.getElem?_eq_getElem _
  generalize trip[x]'(by rw [S.len]; exact hx) = tx at ex
  generalize trip[p]'(by rw [S.len]; exact hp) = tp at ep
  obtain ⟨row, hr, n1, hn⟩ := S.t1 p tp ep
  have cnt := S.t2 x tx ex tp.1
  rw [getD_some hr] at cnt
  have mr := List.mem_of_getElem? hr
  have cc := count_chain (A := A) (x := x) (p := p) row tp.2.1 (S.t3 row mr) (fun a _ b h1 h2 => an.tr x b a hx h1 h2) n1 hn
  unfold toldM
  rw [getD_some ex, getD_some ep, cnt]
  have key : decide (tp.1 < tx.2.2.length) = true ∨ (row.filter (A x)).length = 0 := by
    by_cases c : tp.1 < tx.2.2.length
    · exact .inl (decide_eq_true c)
    · right
      rw [← cnt, List.getD_eq_getElem?_getD, List.getElem?_eq_none (by omega)]
      rfl
  have e : (decide (tp.1 < tx.2.2.length) && decide (tp.2.1 ≤ (row.filter (A x)).length)) = decide (tp.2.1 ≤ (row.filter (A x)).length) := by
    rcases key with k | k
    · rw [k]
      rfl
    · rw [decide_eq_false (show ¬ tp.2.1 ≤ (row.filter (A x)).length by omega)]
      exact Bool.and_false _
  rw [e]
  cases hA : A x p with
  | true => exact decide_eq_true (cc.mpr hA)
  | false => exact decide_eq_false (fun c => by rw [cc.mp c] at hA; cases hA)
end
end Lk
set_option Elab.async false
set_option linter.all false
set_option maxRecDepth 100000
set_option maxHeartbeats 4000000
namespace Lk
open PySem PySem.Spec PyProof.Rows L2
open He (ga ma)
section
variable {P : Program} {w : World} {K : PySem.W.Frag} {mg : Str → Option Value} {base : Heap}
theorem filt_congr {A B : Nat → Bool} {row : List Nat} (h : ∀ k ∈ row, A k = B k) : row.filter A = row.filter B := List.filter_congr h
theorem getD_of {α : Type} {l : List α} {i : Nat} {d : α} (h : l.length ≤ i) : l.getD i d = d := by
  rw [List.getD_eq_getElem?_getD, List.getElem?_eq_none h]
  rfl
theorem sch_ok (rows : List (List Nat)) (h : WfL rows) : Sch rows.length (oneM (runM rows).bits) (runM rows).trip (runM rows).held := by
  induction rows using snocInd with
  | h0 => exact ⟨rfl, fun p t e => by simp [runM, m0] at e, fun x t e => by simp [runM, m0] at e, by simp [runM, m0], by simp [runM, m0]⟩
  | h1 rows r ih =>
    have an := anc_ok (rows ++ [r]) h
    obtain ⟨h1, h2⟩ := h.init
    have S := ih h1
    have an0 := anc_ok rows h1
    have bl := (bits_len rows).1
    have tl := (bits_len rows).2
    have RO := run_ok rows
    have ebits := bits_snoc rows r
    have ph := putM_held (runM (rows ++ [r])).bits (runM rows).lots (runM rows).held rows.length RO.inr
    have pk := putM_ok (bits := (runM (rows ++ [r])).bits) (x := rows.length) RO
    have etr : (runM (rows ++ [r])).trip = (runM rows).trip ++ [((putM (runM (rows ++ [r])).bits (runM rows).lots (runM rows).held rows.length).2.2, ((putM (runM (rows ++ [r])).bits (runM rows).lots (runM rows).held rows.length).2.1.getD (putM (runM (rows ++ [r])).bits (runM rows).lots (runM rows).held rows.length).2.2 []).length, entM (runM (rows ++ [r])).bits (putM (runM (rows ++ [r])).bits (runM rows).lots (runM rows).held rows.length).2.1 rows.length)] := by
      rw [runM_snoc]
      unfold nextM
      simp only [tl]
    have ehd : (runM (rows ++ [r])).held = (putM (runM (rows ++ [r])).bits (runM rows).lots (runM rows).held rows.length).2.1 := by
      rw [runM_snoc]
      unfold nextM
      simp only [tl]
    rw [etr, ehd]
    generalize putM (runM (rows ++ [r])).bits (runM rows).lots (runM rows).held rows.length = q at ph pk
    obtain ⟨lots', held', slot⟩ := q
    simp only [] at ph pk ⊢
    have old : ∀ y k, y < rows.length → oneM (runM (rows ++ [r])).bits y k = oneM (runM rows).bits y k := fun y k c => by
      rw [ebits]
      exact one_old (by rw [bl]; exact c)
    have hl1 : (rows ++ [r]).length = rows.length + 1 := by rw [List.length_append]; rfl
    rw [hl1] at an ⊢
    have far : ∀ y, y < rows.length → oneM (runM (rows ++ [r])).bits y rows.length = false := fun y c => by
      cases e : oneM (runM (rows ++ [r])).bits y rows.length with
      | false => rfl
      | true =>
        have := an.le y rows.length (by omega) e
        omega
    -- the row of x, and the others
    have row_of : ∀ (s : Nat) row, (runM rows).held[s]? = some row → held'[s]? = some row ∨ held'[s]? = some (row ++ [rows.length]) := fun s row e => by
      have hs := (List.getElem?_eq_some_iff.mp e).1
      rcases ph with ⟨_, b⟩ | ⟨a, b, _⟩
      · rw [b, List.getElem?_append_left hs]
        exact .inl e
      · rw [b, List.getElem?_set]
        by_cases c : slot = s
        · subst c
          rw [if_pos rfl, if_pos hs, getD_some e]
          exact .inr rfl
        · rw [if_neg c]
          exact .inl e
    have get_new : ∀ s, held'.getD s [] = (runM rows).held.getD s [] ∨ held'.getD s [] = (runM rows).held.getD s [] ++ [rows.length] := fun s => by
      cases e : (runM rows).held[s]? with
      | some row =>
        rcases row_of s row e with c | c
        · rw [getD_some c, getD_some e]
          exact .inl rfl
        · rw [getD_some c, getD_some e]
          exact .inr rfl
      | none =>
        have hge := List.getElem?_eq_none_iff.mp e
        rw [getD_of hge]
        rcases ph with ⟨_, b⟩ | ⟨a, b, _⟩
        · rw [b]
          by_cases c : s = (runM rows).held.length
          · subst c
            right
            rw [List.getD_eq_getElem?_getD, List.getElem?_append_right (Nat.le_refl _), Nat.sub_self]
            rfl
          · left
            rw [getD_of (by rw [List.length_append]; show (runM rows).held.length + 1 ≤ s; omega)]
        · left
          rw [b, getD_of (by rw [List.length_set]; exact hge)]
    have slot_row : (held'.getD slot []) = (runM rows).held.getD slot [] ++ [rows.length] := by
      rcases ph with ⟨a, b⟩ | ⟨a, b, _⟩
      · rw [b, a, List.getD_eq_getElem?_getD, List.getElem?_append_right (Nat.le_refl _), Nat.sub_self, getD_of (Nat.le_refl _)]
        rfl
      · rw [b, getD_set, if_pos ⟨rfl, a⟩]
    have new_row : ∀ row ∈ held', row ∈ (runM rows).held ∨ row = (runM rows).held.getD slot [] ++ [rows.length] := fun row m => by
      rcases ph with ⟨a, b⟩ | ⟨a, b, _⟩
      · rw [b] at m
        rcases List.mem_append.mp m with m | m
        · exact .inl m
        · rw [List.mem_singleton.mp m, a, getD_of (Nat.le_refl _)]
          exact .inr rfl
      · rw [b] at m
        exact mem_set_iff m
    have small : ∀ k ∈ (runM rows).held.getD slot [], k < rows.length := getD_all (p := fun l => ∀ k ∈ l, k < rows.length) S.t4 (by simp) slot
    have chain : ((runM rows).held.getD slot []).Pairwise (fun a b => oneM (runM rows).bits b a = true) := getD_all (p := fun l => l.Pairwise (fun a b => oneM (runM rows).bits b a = true)) S.t3 (by simp) slot
    have lift : ∀ l : List Nat, (∀ k ∈ l, k < rows.length) → l.Pairwise (fun a b => oneM (runM rows).bits b a = true) → l.Pairwise (fun a b => oneM (runM (rows ++ [r])).bits b a = true) := fun l hb hp => by
      refine hp.imp_of_mem fun {a b} _ mb h => ?_
      rw [old b a (hb b mb)]
      exact h
    refine ⟨?_, fun p t e => ?_, fun y t e s => ?_, fun row m => ?_, fun row m k mk' => ?_⟩
    · rw [List.length_append, S.len]
      rfl
    · by_cases hp : p < (runM rows).trip.length
      · rw [List.getElem?_append_left hp] at e
        obtain ⟨row, hr, n1, hn⟩ := S.t1 p t e
        rcases row_of t.1 row hr with c | c
        · exact ⟨row, c, n1, hn⟩
        · refine ⟨_, c, n1, ?_⟩
          rw [List.getElem?_append_left (List.getElem?_eq_some_iff.mp hn).1]
          exact hn
      · have e2 := (List.getElem?_eq_some_iff.mp e).1
        rw [List.length_append] at e2
        have e2 : p < (runM rows).trip.length + 1 := e2
        obtain rfl : p = (runM rows).trip.length := by omega
        rw [List.getElem?_append_right (Nat.le_refl _), Nat.sub_self] at e
        have e := Option.some.inj e
        subst e
        refine ⟨held'.getD slot [], ?_, ?_, ?_⟩
        · show held'[slot]? = _
          rw [List.getD_eq_getElem?_getD, List.getElem?_eq_getElem pk.2]
          rfl
        · show 1 ≤ (held'.getD slot []).length
          rw [slot_row, List.length_append]
          exact Nat.le_add_left _ _
        · show (held'.getD slot [])[(held'.getD slot []).length - 1]? = some (runM rows).trip.length
          rw [slot_row, List.length_append]
          show ((runM rows).held.getD slot [] ++ [rows.length])[((runM rows).held.getD slot []).length + 1 - 1]? = _
          rw [Nat.add_sub_cancel, List.getElem?_append_right (Nat.le_refl _), Nat.sub_self, tl]
          rfl
    · by_cases hy : y < (runM rows).trip.length
      · rw [List.getElem?_append_left hy] at e
        rw [S.t2 y t e s]
        rw [tl] at hy
        have cg : ∀ l : List Nat, l.filter (oneM (runM (rows ++ [r])).bits y) = l.filter (oneM (runM rows).bits y) := fun l => filt_congr fun k _ => old y k hy
        rw [cg]
        rcases get_new s with c | c
        · rw [c]
        · have fy : oneM (runM rows).bits y rows.length = false := by
            rw [← old y _ hy]
            exact far y hy
          rw [c, List.filter_append, List.filter_cons_of_neg (by rw [fy]; exact Bool.false_ne_true), List.filter_nil, List.append_nil]
      · have e2 := (List.getElem?_eq_some_iff.mp e).1
        rw [List.length_append] at e2
        have e2 : y < (runM rows).trip.length + 1 := e2
        obtain rfl : y = (runM rows).trip.length := by omega
        rw [List.getElem?_append_right (Nat.le_refl _), Nat.sub_self] at e
        have e := Option.some.inj e
        subst e
        show (entM (runM (rows ++ [r])).bits held' rows.length).getD s 0 = _
        unfold entM
        rw [tl, List.getD_eq_getElem?_getD, List.getElem?_map, List.getD_eq_getElem?_getD]
        cases held'[s]? with
        | none => rfl
        | some row => rfl
    · rcases new_row row m with c | rfl
      · exact lift row (fun k hk => S.t4 row c k hk) (S.t3 row c)
      · refine List.pairwise_append.mpr ⟨lift _ small chain, by simp, fun a ha b hb => ?_⟩
        rw [List.mem_singleton.mp hb]
        have hne : (runM rows).held.getD slot [] ≠ [] := List.ne_nil_of_mem ha
        have hl : oneM (runM (rows ++ [r])).bits rows.length (((runM rows).held.getD slot []).getLastD 0) = true := by
          rcases ph with ⟨a', b'⟩ | ⟨_, _, c⟩
          · rw [a', getD_of (Nat.le_refl _)] at hne
            exact absurd rfl hne
          · exact c
        have el : ((runM rows).held.getD slot []).dropLast ++ [((runM rows).held.getD slot []).getLastD 0] = (runM rows).held.getD slot [] := by
          conv => rhs; rw [← List.dropLast_concat_getLast hne]
          rw [List.getLastD_eq_getLast?, List.getLast?_eq_some_getLast hne]
          rfl
        generalize (runM rows).held.getD slot [] = row at ha small chain hl el
        rw [← el] at ha chain small
        obtain ⟨_, _, c3⟩ := List.pairwise_append.mp chain
        rcases List.mem_append.mp ha with ha | ha
        · have hs := small (row.getLastD 0) (by simp)
          refine an.tr rows.length (row.getLastD 0) a (by omega) hl ?_
          rw [old _ _ hs]
          exact c3 a ha _ (by simp)
        · rw [List.mem_singleton.mp ha]
          exact hl
    · rcases new_row row m with c | rfl
      · exact Nat.lt_succ_of_lt (S.t4 row c k mk')
      · rcases List.mem_append.mp mk' with c | c
        · exact Nat.lt_succ_of_lt (small k c)
        · rw [List.mem_singleton.mp c]
          exact Nat.lt_succ_self _
theorem ask_ok {rows : List (List Nat)} (h : WfL rows) {x p : Nat} (hx : x < rows.length) (hp : p < rows.length) : toldM (runM rows).trip x p = decide (p ∈ (lotsM rows).getD x []) := by
  rw [told_of (sch_ok rows h) (anc_ok rows h) hx hp]
  have := (lots_ok rows h x hx).1 p
  cases e : oneM (runM rows).bits x p with
  | true => exact (decide_eq_true (this.mpr e)).symm
  | false => exact (decide_eq_false (fun c => by rw [this.mp c] at e; cases e)).symm
end
end Lk
set_option Elab.async false
set_option linter.all false
set_option maxRecDepth 100000
set_option maxHeartbeats 4000000
namespace Lk
open PySem PySem.Spec PyProof.Rows L2
open He (ga ma)
section
variable {P : Program} {w : World} {K : PySem.W.Frag} {mg : Str → Option Value} {base : Heap}
theorem lots_take {rows : List (List Nat)} {i : Nat} {r : List Nat} (h : rows[i]? = some r) : lotsM (rows.take (i + 1)) = lotsM (rows.take i) ++ [lotM (lotsM (rows.take i)) r] := by
  rw [take_snoc h, lotsM_snoc]
theorem WfL.take {rows : List (List Nat)} (h : WfL rows) (n : Nat) : WfL (rows.take n) := fun i r e => by
  rw [List.getElem?_take] at e
  split at e
  · exact h i r e
  · cases e
def spLLots : Sp := fun vs H Q _ => ∃ (a : Addr) (rows : List (List Nat)), vs = [.ref a] ∧ TT2 H a rows ∧ WfL rows ∧ rows.length ≤ 19 ∧ (∀ r ∈ rows, r.length ≤ 20) ∧ ∀ l as H', Same H H' → H' l = some (.lst (as.map V.ref)) → AllAt (LN H') as (lotsM rows) → Q (.ref l) H'
theorem ok_law_lots (T : Tx K mg) (F : Fx K) : DefOk P w K mg base CX0 2 (ga K "_law_lots") ["_law_rows"] spLLots := by
  have D1 := ok_law_lot (P := P) (w := w) (base := base) T F
  have nd := sc_law_lots.nd
  refine def0 F.f_law_lots bd_law_lots sc_law_lots (fun vs H Q E h => ?_) (fun cdv A outer s0 H vs Q E hr h => ?_)
  · obtain ⟨a, rows, rfl, _⟩ := h
    rfl
  · obtain ⟨a, rows, rfl, ⟨bs, ha, ra⟩, wf, hl, hf, k⟩ := h
    refine ⟨_, pss_cons (ps_set (i := 1) nd rfl (Or.inl rfl) (pe_lst pa_nil))
      (pss_cons (ps_for PassesOwn.never rfl (pi_tup (pv 0)) (pg_name (i := 2) nd rfl (Or.inl rfl))
        (pss_one (ps_expr (pe_bm PySem.F.plainAttrs_list PySem.F.slot_list_append PySem.F.type_list_append mt_append (pv 1) (pa_cons (pe_cal D1 hr (by rfl) T.g_law_lot pass0 (pa_cons (pv 1) (pa_cons (pv 2) pa_nil))) pa_nil)))))
      (pss_one (ps_ret (pv 1)))), ?_⟩
    refine ⟨l0, fun l hln => ?_⟩
    have s1 : Same H (upd H l (.lst [])) := Same.new hln
    refine ⟨_, rfl, a, rfl, ⟨_, .of (s1 _ _ ha)⟩, for_tup (K := K) (a := a) (xs := bs.map V.ref) (fun i σ H' => ∃ v as, σ = [some (.ref a), some (.ref l), v] ∧ Same H H' ∧ H' l = some (.lst (as.map V.ref)) ∧ AllAt (LN H') as (lotsM (rows.take i)) ∧ (∀ b ∈ as, b ≠ l) ∧ i ≤ rows.length)
      ⟨none, [], rfl, s1, upd_same, .nil, by simp, Nat.zero_le _⟩ (fun i σ H' _ ⟨_, _, _, e, _⟩ => .of (e _ _ ha)) ?_ ?_⟩
    · rintro i x σ H' hi ⟨v, as, rfl, e, q, r, nl, hil⟩
      obtain ⟨c, hc, rfl⟩ := get_map hi
      obtain ⟨row, hrow, rr⟩ := ra.get' hc
      have hi1 : i < rows.length := (List.getElem?_eq_some_iff.mp hrow).1
      have lt := lots_take hrow
      have ll : (lotsM (rows.take i)).length = i := by
        rw [lotsM_len, List.length_take]
        omega
      refine ⟨_, rfl, .inl ⟨rfl, _, .of q⟩, _, rfl, _, rfl, l, c, as, _, row, rfl, q, r, rr.same e, fun p hp => ?_, lots_small _ (wf.take i) (by rw [List.length_take]; omega), hf row (List.mem_of_getElem? hrow), fun D H2 e2 hD L2 => ?_⟩
      · rw [ll]
        exact wf i row hrow p hp
      · have Dl : D ≠ l := (ne_of_none q hD).symm
        refine ⟨l, _, .ref D, rfl, rfl, e2 _ _ q, by rw [List.length_map, r.1, ll]; exact small1000 (by omega), _, as ++ [D], rfl, same_upd hln (e.trans e2), by rw [upd_same, List.map_append]; rfl, ?_, app_all nl Dl, hi1⟩
        rw [lt]
        refine (r.impM fun u w' m h => ?_).snoc ?_
        · show upd _ _ _ _ = _
          rw [upd_ne (nl u m)]
          exact e2 _ _ h
        · show upd _ _ _ _ = _
          rw [upd_ne Dl]
          exact L2
    · rintro σ H' ⟨v, as, rfl, e, q, r, nl, hil⟩
      rw [List.length_map, ra.1, List.take_length] at r
      exact ⟨_, rfl, k l as H' e q r⟩
/-- every row could be loaded -/
def Ld (rows : List (List Nat)) : Prop := ∀ (i : Nat) r, rows[i]? = some r → parB i r = true
theorem Ld.wf {rows : List (List Nat)} (h : Ld rows) : WfL rows := fun i r e p hp => parB_lt (h i r e) p hp
def spLRun (K : PySem.W.Frag) : Sp := fun vs H Q _ => ∃ (a g : Addr) (o : HO) (rows : List (List Nat)), vs = [.ref a] ∧ TT2 H a rows ∧ Ld rows ∧ rows.length ≤ 19 ∧ H g = some o ∧ ∀ r H', Same H H' → RunAt K g H' r rows → Q (.ref r) H'
theorem parB_len {n : Nat} {r : List Nat} (h : parB n r = true) : r.length ≤ 6 := by
  unfold parB at h
  rw [Bool.and_eq_true] at h
  exact of_decide_eq_true h.2
theorem ok_law_runtime (PO : ProgOk P) (T : Tx K mg) (F : Fx K) (X : Ex w K) : DefOk P w K mg base (L2.CX P w) 8 (ga K "_law_runtime") ["_law_rows"] (spLRun K) := by
  have D1 := ok_Runtime_init (P := P) (w := w) (base := base) T F
  have D2 := ok_Runtime_load (base := base) PO T F X
  have nd := sc_law_runtime.nd
  refine def_ok F.f_law_runtime bd_law_runtime sc_law_runtime (fun vs H Q E h => ?_) (fun cdv A outer s0 H vs Q E hr h => ?_)
  · obtain ⟨a, g, o, rows, rfl, _⟩ := h
    rfl
  · obtain ⟨a, g, o, rows, rfl, ⟨bs, ha, ra⟩, ld, hl, hg, k⟩ := h
    refine ⟨_, pss_cons (ps_set (i := 1) nd rfl (Or.inl rfl) (pe_mak0 T.k_Runtime D1 hr (by rfl) T.g_Runtime pass0))
      (pss_cons (ps_for (passes_of rfl) rfl (pi_tup (pv 0)) (pg_name (i := 2) nd rfl (Or.inl rfl)) (pss_one (ps_expr (pe_met (E := E0) (pv 1) T.c_Runtime T.m_Runtime_load D2 hr passL (pa_cons (pv 2) pa_nil)))))
      (pss_one (ps_ret (pv 1)))), ?_⟩
    refine fun x dx hx hdx hn => ⟨x, dx, g, o, rfl, upd_same, mk_ins0 hx hdx hn _ _ hg, fun H1 bt R1 _ => ⟨rfl, ?_⟩⟩
    have s1 : Same H H1 := mk_ins hx hdx hn bt
    refine ⟨_, rfl, a, rfl, ⟨_, .of (s1 _ _ ha)⟩, for_tup (K := K) (a := a) (xs := bs.map V.ref) (fun i σ H' => ∃ v, σ = [some (.ref a), some (.ref x), v] ∧ Same H H' ∧ RunAt K g H' x (rows.take i) ∧ i ≤ rows.length)
      ⟨none, rfl, s1, R1, Nat.zero_le _⟩ (fun i σ H' _ ⟨_, _, e, _⟩ => .of (e _ _ ha)) ?_ ?_⟩
    · rintro i y σ H' hi ⟨v, rfl, e, R, hil⟩
      obtain ⟨c, hc, rfl⟩ := get_map hi
      obtain ⟨row, hrow, rr⟩ := ra.get' hc
      have hi1 : i < rows.length := (List.getElem?_eq_some_iff.mp hrow).1
      have ll : (rows.take i).length = i := by
        rw [List.length_take]
        omega
      have pb := ld i row hrow
      obtain ⟨dx', pp', s', ss', h1', _, _, _⟩ := id R
      refine ⟨_, rfl, x, dx', _, rfl, h1', rfl, _, rfl, x, c, g, o, rows.take i, row, rfl, R, rr.same e, Nat.le_trans (parB_len pb) (by decide), by omega, e _ _ hg, fun _ H2 b2 R2 => ?_, fun c => by rw [ll, pb] at c; cases c⟩
      rw [← take_snoc hrow] at R2
      exact ⟨_, rfl, But.same hx e b2, R2, hi1⟩
    · rintro σ H' ⟨v, rfl, e, R, hil⟩
      rw [List.length_map, ra.1, List.take_length] at R
      exact ⟨_, rfl, k x H' e R⟩
end
end Lk
set_option Elab.async false
set_option linter.all false
set_option maxRecDepth 100000
set_option maxHeartbeats 4000000
namespace Lk
open PySem PySem.Spec PyProof.Rows L2
open He (ga ma)
section
variable {P : Program} {w : World} {K : PySem.W.Frag} {mg : Str → Option Value} {base : Heap}
inductive Wd where
  | sho | ask | given | groups | slots | width
def wdS : Wd → Str
  | .sho => "show" | .ask => "ask" | .given => "given" | .groups => "groups" | .slots => "slots" | .width => "width"
def resM (rows : List (List Nat)) (x p : Nat) : Wd → Str
  | .sho => shT rows
  | .ask => yn (decide (p ∈ (lotsM rows).getD x []))
  | .given => givM ((runM rows).trip.getD x (0, 0, []))
  | .groups => grT (groupsM (runM rows).lots)
  | .slots => slT rows
  | .width => wT rows
theorem Ld.rw {rows : List (List Nat)} (h : Ld rows) (hl : rows.length ≤ 10) : RwOk rows := ⟨hl, fun r m => by
  obtain ⟨i, hi⟩ := List.getElem?_of_mem m
  exact parB_len (h i r hi), fun r m n hn => by
  obtain ⟨i, hi⟩ := List.getElem?_of_mem m
  have := parB_lt (h i r hi) n hn
  have := (List.getElem?_eq_some_iff.mp hi).1
  omega⟩
theorem app_empty (x : Str) : x ++ Str.empty = x := TL.ext_tl (by rw [TL.tl_append]; show TL.tl x ++ [] = TL.tl x; rw [List.append_nil])
def spLAns (K : PySem.W.Frag) : Sp := fun vs H Q _ => ∃ (a g : Addr) (o : HO) (rows : List (List Nat)) (x p : Nat) (wd : Wd), vs = [.str (wdS wd), .ref a, vi x, vi p] ∧ TT2 H a rows ∧ Ld rows ∧ rows.length ≤ 10 ∧ (wd = .ask ∨ wd = .given → x < rows.length) ∧ H g = some o ∧ ∀ H', Same H H' → Q (.str (resM rows x p wd)) H'
theorem ok_law_answer (PO : ProgOk P) (T : Tx K mg) (F : Fx K) (X : Ex w K) : DefOk P w K mg base (L2.CX P w) 9 (ga K "_law_answer") ["_law_word", "_law_rows", "_law_x", "_law_p"] (spLAns K) := by
  have DJ := ok_law_joined (P := P) (w := w) (base := base) T F
  have DN := ok_law_none (P := P) (w := w) (base := base) T F
  have DS := ok_law_lots (P := P) (w := w) (base := base) T F
  have DR := ok_law_runtime (base := base) PO T F X
  have DG := ok_Runtime_given (base := base) PO T F X
  have DGr := ok_Runtime_groups (P := P) (w := w) (base := base) T F
  have DB := ok_Runtime_book (P := P) (w := w) (base := base) T F
  have DW := ok_width (P := P) (w := w) (base := base) T F
  have nd := sc_law_answer.nd
  refine def_ok F.f_law_answer bd_law_answer sc_law_answer (fun vs H Q E h => ?_) (fun cdv A outer s0 H vs Q E hr h => ?_)
  · obtain ⟨a, g, o, rows, x, p, wd, rfl, _⟩ := h
    rfl
  obtain ⟨a, g, o, rows, x, p, wd, rfl, t2, ld, hl, hx, hg, k⟩ := h
  have rw0 := ld.rw hl
  cases wd with
  | sho =>
    refine ⟨_, (pss_cons (ps_if (pt_cmpR op_eq (pv 0) pe_str (nomark _)) (pss_one (ps_ret (pe_op op_add_str (pe_join pe_str (pe_lc (own := [("_law_parents_here", 8)]) (g := gName 8) (tt := tYes) (te := tOp (fun x y H Q => ∃ i j, x = .str i ∧ y = .str j ∧ i.length + j.length ≤ sizeLine ∧ Q (.str (i ++ j)) H) (cCall spJoined E0 (tCons (tVar 8) (tCons (tC (.str " ")) tNil))) (tC (.str "|"))) rfl nd (pi_tup (pv 1)) (blkOk_by (N := N_law_answer) (sc := defScope s_law_answer) (by decide +kernel)) (fun _ _ _ _ _ => pg_name (i := 8) nd rfl (Or.inl rfl)) (fun _ _ _ _ _ => pts_nil) (fun _ _ _ _ _ => pe_op op_add_str (pe_cal (DJ.mono (by decide : 1 ≤ 8)) hr (by rfl) T.g_law_joined pass0 (pa_cons (pv 8) (pa_cons pe_str pa_nil))) pe_str)))
        (pe_op op_mulS pe_str (pe_callTy call_int1 (by rfl) T.b_int (by decide +kernel) (pa_cons (pe_cmpR op_eq (pe_callB call_len (by rfl) T.b_len (by decide +kernel) (pa_cons (pv 1) pa_nil)) pe_int (nomark _)) pa_nil)))))) pss_nil) pss_never), ?_⟩
    refine ⟨_, rfl, rfl, true, (show V.bl (decide (V.str ("show" : Str) = V.str ("show" : Str))) = V.bl true by decide +kernel), ?_⟩
    refine iteT (B := True) ?_
    obtain ⟨as, ha, ra⟩ := t2
    refine ⟨⟨_, rfl⟩, _, rfl, a, rfl, ⟨_, .of ha⟩, fun D hD => lc_tup (K := K) (a := a) (xs := as.map V.ref) (fun i H' => Same H H' ∧ H' D = some (.lst (((rows.take i).map fun r => jM r " " ++ ("|" : Str)).map V.str)))
        ⟨Same.new hD, upd_same⟩ (fun i H' _ ⟨e, _⟩ => .of (e _ _ ha)) ?_ ?_⟩
    · rintro i y H' hi ⟨e, qq⟩
      obtain ⟨c, hc, rfl⟩ := get_map hi
      obtain ⟨row, hrow, rr⟩ := ra.get' hc
      have m := List.mem_of_getElem? hrow
      refine ⟨rfl, ?_⟩
      refine iteT (B := True) ?_
      refine ⟨_, rfl, c, row, " ", rfl, rr.same e, Nat.le_trans (rw0.few row m) (by decide), fun n hn => Nat.lt_trans (rw0.sm row m n hn) (by decide), by decide +kernel, fun H2 e2 => ⟨_, _, rfl, rfl, ?_, _, e2 _ _ qq, ?_, same_upd hD (e.trans e2), ?_⟩⟩
      · have := jM_rw rw0 m
        have e1 : ("|" : Str).length = 1 := by decide +kernel
        exact szl _ (by omega)
      · rw [List.length_map, List.length_map, List.length_take]
        exact small1000 (by omega)
      · rw [upd_same, take_snoc hrow, List.map_append, List.map_append]
        rfl
    · rintro H1 ⟨e, qq⟩
      rw [List.length_map, ra.1, List.take_length] at qq
      refine ⟨_, D, _, rfl, rfl, .inl (.of qq), join_fit (k := 80) (m := 10) (fun y hy => ?_) (by rw [List.length_map]; exact hl) (by decide +kernel) (by decide), ?_⟩
      · obtain ⟨r, hr1, rfl⟩ := List.mem_map.mp hy
        have := jM_rw rw0 hr1
        have e1 : ("|" : Str).length = 1 := by decide +kernel
        rw [len_app]
        omega
      · have ln := rowsT_len rw0 (e := "|") (by decide +kernel)
        refine ⟨_, rfl, _, _, rfl, .inr ⟨_, .of (e _ _ ha), rfl⟩, rfl, .inr ⟨_, rfl, _, _, rfl, rfl, ?_, ?_⟩⟩
        · by_cases c : decide (V.int (((as.map V.ref).length : Nat) : Int) = V.int 0) = true
          · rw [c]
            exact .inr rfl
          · rw [Bool.eq_false_iff.mpr c]
            exact .inl rfl
        · have kk := k H1 e
          have e0 : decide (V.int (((as.map V.ref).length : Nat) : Int) = V.int 0) = decide (rows.length = 0) := by
            rw [List.length_map, ra.1]
            exact dec_vi rows.length 0
          rw [e0]
          cases rows with
          | nil =>
            refine ⟨_, _, rfl, rfl, (show (Txt.join "" []).length + ("none" : Str).length ≤ sizeLine by decide +kernel), ?_⟩
            have eq : Txt.join "" [] ++ ("none" : Str) = ("none" : Str) := by decide +kernel
            show Q (.str (Txt.join "" [] ++ ("none" : Str))) H1
            rw [eq]
            exact kk
          | cons r0 rt =>
            refine ⟨_, _, rfl, rfl, ?_, ?_⟩
            · show (rowsT (r0 :: rt) "|").length + Str.empty.length ≤ sizeLine
              exact szl _ (by have : Str.empty.length = 0 := rfl; omega)
            · show Q (.str (rowsT (r0 :: rt) "|" ++ Str.empty)) H1
              rw [app_empty]
              exact kk
  | ask =>
    refine ⟨_, (pss_cons (ps_if (pt_cmpR op_eq (pv 0) pe_str (nomark _)) pss_never pss_nil)
      (pss_cons (ps_if (pt_cmpR op_eq (pv 0) pe_str (nomark _)) (pss_one (ps_ret (pe_ifExp (pt_cmpR op_in_seq (pv 3) (pe_ix ix_list (pe_cal (DS.mono (by decide : 2 ≤ 8)) hr (by rfl) T.g_law_lots pass0 (pa_cons (pv 1) pa_nil)) (pv 2) (fun _ _ => rfl)) (by with_unfolding_all rfl)) pe_str pe_str))) pss_nil) pss_never)), ?_⟩
    refine ⟨_, rfl, rfl, false, (show V.bl (decide (V.str ("ask" : Str) = V.str ("show" : Str))) = V.bl false by decide +kernel), ?_⟩
    refine iteF (A := True) ?_
    refine ⟨_, rfl, rfl, true, (show V.bl (decide (V.str ("ask" : Str) = V.str ("ask" : Str))) = V.bl true by decide +kernel), ?_⟩
    refine iteT (B := True) ?_
    have hx := hx (.inl rfl)
    refine ⟨_, rfl, _, rfl, a, rows, rfl, t2, ld.wf, by omega, fun r m => Nat.le_trans (rw0.few r m) (by decide), fun l as H1 e1 h1 r1 => ⟨_, rfl, ?_⟩⟩
    have hxl : x < (lotsM rows).length := by rw [lotsM_len]; exact hx
    have el : (lotsM rows)[x]? = some (lotsM rows)[x] := List.getElem?_eq_getElem hxl
    obtain ⟨b, hb, rb⟩ := r1.get el
    refine ⟨l, _, _, _, rfl, rfl, .of h1, atI_nat (map_get hb), b, _, rfl, .inl (.of rb), rfl, flat_vi _, _, rfl, ?_⟩
    rw [if_neg (by decide), inV_vi]
    have kk := k H1 e1
    unfold resM yn at kk
    simp only [getD_some el] at kk
    cases c : decide (p ∈ (lotsM rows)[x]) with
    | true =>
      rw [c] at kk
      refine iteT (B := True) ?_
      exact kk
    | false =>
      rw [c] at kk
      refine iteF (A := True) ?_
      exact kk
  | given =>
    refine ⟨_, (pss_cons (ps_if (pt_cmpR op_eq (pv 0) pe_str (nomark _)) pss_never pss_nil)
      (pss_cons (ps_if (pt_cmpR op_eq (pv 0) pe_str (nomark _)) pss_never pss_nil)
      (pss_cut (ps_set (i := 4) nd rfl (Or.inl rfl) (pe_cal (E := E0) DR hr (by rfl) T.g_law_runtime passL (pa_cons (pv 1) pa_nil)))
      (pss_cons (ps_if (pt_cmpR op_eq (pv 0) pe_str (nomark _)) (pss_cut (ps_set (i := 5) nd rfl (Or.inl rfl) (pe_met (E := E0) (pv 4) T.c_Runtime T.m_Runtime_given (DG.mono (by decide : 4 ≤ 8)) hr passL (pa_cons (pv 2) pa_nil)))
        (pss_one (ps_ret (pe_op op_add_str (pe_op op_add_str (pe_op op_add_str (pe_op op_add_str (pe_callTy call_str_int (by rfl) T.b_str (by decide +kernel) (pa_cons (pe_ix ix_tup (pv 5) pe_int (fun _ _ => rfl)) pa_nil)) pe_str)
        (pe_callTy call_str_int (by rfl) T.b_str (by decide +kernel) (pa_cons (pe_ix ix_tup (pv 5) pe_int (fun _ _ => rfl)) pa_nil))) pe_str) (pe_cal (DJ.mono (by decide : 1 ≤ 8)) hr (by rfl) T.g_law_joined pass0 (pa_cons (pe_ix ix_tup (pv 5) pe_int (fun _ _ => rfl)) (pa_cons pe_str pa_nil))))))) pss_nil) pss_never)))), ?_⟩
    refine ⟨_, rfl, rfl, false, (show V.bl (decide (V.str ("given" : Str) = V.str ("show" : Str))) = V.bl false by decide +kernel), ?_⟩
    refine iteF (A := True) ?_
    refine ⟨_, rfl, rfl, false, (show V.bl (decide (V.str ("given" : Str) = V.str ("ask" : Str))) = V.bl false by decide +kernel), ?_⟩
    refine iteF (A := True) ?_
    refine ⟨fun σ H' => ∃ r, σ = [some (.str (wdS .given)), some (.ref a), some (vi x), some (vi p), some (.ref r), none, none, none, none, none] ∧ Same H H' ∧ RunAt K g H' r rows, ⟨_, rfl, a, g, o, rows, rfl, t2, ld, by omega, hg, fun r H1 e1 R1 => ⟨r, rfl, e1, R1⟩⟩, ?_⟩
    rintro σ H1 ⟨r, rfl, e1, R⟩
    obtain ⟨dx, pp, s1, ss, q1, _⟩ := id R
    refine ⟨_, rfl, rfl, true, (show V.bl (decide (V.str ("given" : Str) = V.str ("given" : Str))) = V.bl true by decide +kernel), ?_⟩
    refine iteT (B := True) ?_
    have hx := hx (.inr rfl)
    refine ⟨fun σ H' => ∃ c t, σ = [some (.str (wdS .given)), some (.ref a), some (vi x), some (vi p), some (.ref r), some (.ref c), none, none, none, none] ∧ H1 = H' ∧ (runM rows).trip[x]? = some t ∧ TR H1 c t, ⟨_, rfl, r, dx, _, rfl, q1, rfl, _, rfl, r, g, rows, x, rfl, R, fun _ c t et ta => ⟨c, t, rfl, rfl, et, ta⟩, fun c => absurd hx c⟩, ?_⟩
    rintro σ _ ⟨c, t, rfl, rfl, et, ⟨en, h1, h2⟩⟩
    have ok := trip_ok rows (by omega) t (List.mem_of_getElem? et)
    have n1 := nT_len ok.1
    have n2 := nT_len ok.2.1
    have n3 := jM_len (bt := ",") ok.2.2.2 (by decide +kernel)
    have n4 := ok.2.2.1
    have e1' : (" " : Str).length = 1 := by decide +kernel
    have e2' : (": " : Str).length = 2 := by decide +kernel
    refine ⟨_, rfl, c, _, 0, _, rfl, rfl, .of h1, rfl, _, rfl, log_small (by rw [Int.natAbs_natCast]; have := ok.1; omega), nT t.1, _, rfl, rfl, szl _ (by omega), ?_⟩
    refine ⟨_, rfl, c, _, 1, _, rfl, rfl, .of h1, rfl, _, rfl, log_small (by rw [Int.natAbs_natCast]; have := ok.2.1; omega), _, nT t.2.1, rfl, rfl, szl _ (by rw [len_app]; omega), _, _, rfl, rfl, szl _ (by rw [len_app, len_app]; omega), ?_⟩
    refine ⟨_, rfl, c, _, 2, _, rfl, rfl, .of h1, rfl, en, t.2.2, ",", rfl, h2, ok.2.2.1, ok.2.2.2, by decide +kernel, fun H2 e2 => ⟨_, _, rfl, rfl, szl _ (by rw [len_app, len_app, len_app]; omega), ?_⟩⟩
    have kk := k H2 (e1.trans e2)
    unfold resM at kk
    simp only [getD_some et] at kk
    exact kk
  | groups =>
    refine ⟨_, (pss_cons (ps_if (pt_cmpR op_eq (pv 0) pe_str (nomark _)) pss_never pss_nil)
      (pss_cons (ps_if (pt_cmpR op_eq (pv 0) pe_str (nomark _)) pss_never pss_nil)
      (pss_cut (ps_set (i := 4) nd rfl (Or.inl rfl) (pe_cal (E := E0) DR hr (by rfl) T.g_law_runtime passL (pa_cons (pv 1) pa_nil)))
      (pss_cons (ps_if (pt_cmpR op_eq (pv 0) pe_str (nomark _)) pss_never pss_nil)
      (pss_cons (ps_if (pt_cmpR op_eq (pv 0) pe_str (nomark _)) (pss_one (ps_ret (pe_cal (DN.mono (by decide : 1 ≤ 8)) hr (by rfl) T.g_law_none pass0 (pa_cons (pe_lc (own := [("_law_group", 9)]) (g := gName 9) (tt := tYes) (te := cCall spJoined E0 (tCons (tVar 9) (tCons (tC (.str ",")) tNil))) rfl nd (pi_tup (pe_met0 (pv 4) T.c_Runtime T.m_Runtime_groups (DGr.mono (by decide : 4 ≤ 8)) hr pass0)) (blkOk_by (N := N_law_answer) (sc := defScope s_law_answer) (by decide +kernel))
        (fun _ _ _ _ _ => pg_name (i := 9) nd rfl (Or.inl rfl)) (fun _ _ _ _ _ => pts_nil) (fun _ _ _ _ _ => pe_cal (DJ.mono (by decide : 1 ≤ 8)) hr (by rfl) T.g_law_joined pass0 (pa_cons (pv 9) (pa_cons pe_str pa_nil)))) pa_nil)))) pss_nil) pss_never))))), ?_⟩
    refine ⟨_, rfl, rfl, false, (show V.bl (decide (V.str ("groups" : Str) = V.str ("show" : Str))) = V.bl false by decide +kernel), ?_⟩
    refine iteF (A := True) ?_
    refine ⟨_, rfl, rfl, false, (show V.bl (decide (V.str ("groups" : Str) = V.str ("ask" : Str))) = V.bl false by decide +kernel), ?_⟩
    refine iteF (A := True) ?_
    refine ⟨fun σ H' => ∃ r, σ = [some (.str (wdS .groups)), some (.ref a), some (vi x), some (vi p), some (.ref r), none, none, none, none, none] ∧ Same H H' ∧ RunAt K g H' r rows, ⟨_, rfl, a, g, o, rows, rfl, t2, ld, by omega, hg, fun r H1 e1 R1 => ⟨r, rfl, e1, R1⟩⟩, ?_⟩
    rintro σ H1 ⟨r, rfl, e1, R⟩
    obtain ⟨dx, pp, s1, ss, q1, _⟩ := id R
    refine ⟨_, rfl, rfl, false, (show V.bl (decide (V.str ("groups" : Str) = V.str ("given" : Str))) = V.bl false by decide +kernel), ?_⟩
    refine iteF (A := True) ?_
    refine ⟨_, rfl, rfl, true, (show V.bl (decide (V.str ("groups" : Str) = V.str ("groups" : Str))) = V.bl true by decide +kernel), ?_⟩
    refine iteT (B := True) ?_
    have GO := groups_ok rows (by omega)
    refine ⟨_, rfl, r, dx, _, rfl, q1, rfl, r, g, rows, rfl, R, by omega, fun q H2 e2 t2' => ?_⟩
    have k' : ∀ H', Same H H' → Q (.str (grT (groupsM (runM rows).lots))) H' := k
    generalize groupsM (runM rows).lots = gs at GO k' t2'
    obtain ⟨as, ha, ra⟩ := t2'
    refine ⟨q, rfl, ⟨_, .of ha⟩, fun D hD => lc_tup (K := K) (a := q) (xs := as.map V.ref) (fun i H' => Same H2 H' ∧ H' D = some (.lst (((gs.take i).map fun l => jM l ",").map V.str)))
        ⟨Same.new hD, upd_same⟩ (fun i H' _ ⟨e, _⟩ => .of (e _ _ ha)) ?_ ?_⟩
    · rintro i y H' hi ⟨e, qq⟩
      obtain ⟨c, hc, rfl⟩ := get_map hi
      obtain ⟨lot, hlot, rl⟩ := ra.get' hc
      obtain ⟨m1, m2⟩ := GO.2 lot (List.mem_of_getElem? hlot)
      refine ⟨rfl, ?_⟩
      refine iteT (B := True) ?_
      refine ⟨_, rfl, c, lot, ",", rfl, rl.same e, m1, m2, by decide +kernel, fun H3 e3 => ⟨_, e3 _ _ qq, ?_, same_upd hD (e.trans e3), ?_⟩⟩
      · rw [List.length_map, List.length_map, List.length_take]
        have := GO.1
        exact small1000 (by omega)
      · rw [upd_same, take_snoc hlot, List.map_append, List.map_append]
        rfl
    · rintro H3 ⟨e, qq⟩
      rw [List.length_map, ra.1, List.take_length] at qq
      refine ⟨D, gs.map fun l => jM l ",", rfl, .of qq, by rw [List.length_map]; exact GO.1, fun y hy => ?_, ?_⟩
      · obtain ⟨lot, hlot, rfl⟩ := List.mem_map.mp hy
        obtain ⟨m1, m2⟩ := GO.2 lot hlot
        have := jM_len (bt := ",") m2 (by decide +kernel)
        omega
      · have kk := k' H3 ((e1.trans e2).trans e)
        cases gs with
        | nil => exact kk
        | cons g0 r0 => exact kk
  | slots =>
    refine ⟨_, (pss_cons (ps_if (pt_cmpR op_eq (pv 0) pe_str (nomark _)) pss_never pss_nil)
      (pss_cons (ps_if (pt_cmpR op_eq (pv 0) pe_str (nomark _)) pss_never pss_nil)
      (pss_cut (ps_set (i := 4) nd rfl (Or.inl rfl) (pe_cal (E := E0) DR hr (by rfl) T.g_law_runtime passL (pa_cons (pv 1) pa_nil)))
      (pss_cons (ps_if (pt_cmpR op_eq (pv 0) pe_str (nomark _)) pss_never pss_nil)
      (pss_cons (ps_if (pt_cmpR op_eq (pv 0) pe_str (nomark _)) pss_never pss_nil)
      (pss_cons (ps_if (pt_cmpR op_eq (pv 0) pe_str (nomark _)) (pss_cut (ps_set (i := 6) nd rfl (Or.inl rfl) (pe_lst pa_nil))
        (pss_cons (ps_for (passes_of rfl) rfl (pi_range1 (by rfl) T.b_range (pa_cons (pe_callB call_len (by rfl) T.b_len (by decide +kernel) (pa_cons (pv 1) pa_nil)) pa_nil)) (pg_name (i := 7) nd rfl (Or.inl rfl))
          (pss_one (ps_expr (pe_bm PySem.F.plainAttrs_list PySem.F.slot_list_append PySem.F.type_list_append mt_append (pv 6) (pa_cons (pe_ix ix_tup (pe_met (E := E0) (pv 4) T.c_Runtime T.m_Runtime_given (DG.mono (by decide : 4 ≤ 8)) hr passL (pa_cons (pv 7) pa_nil)) pe_int (fun _ _ => rfl)) pa_nil)))))
        (pss_one (ps_ret (pe_callTy call_str_int (by rfl) T.b_str (by decide +kernel) (pa_cons (pe_lenS (by rfl) T.b_len (by rfl) T.b_set (pv 6)) pa_nil)))))) pss_nil) pss_never)))))), ?_⟩
    refine ⟨_, rfl, rfl, false, (show V.bl (decide (V.str ("slots" : Str) = V.str ("show" : Str))) = V.bl false by decide +kernel), ?_⟩
    refine iteF (A := True) ?_
    refine ⟨_, rfl, rfl, false, (show V.bl (decide (V.str ("slots" : Str) = V.str ("ask" : Str))) = V.bl false by decide +kernel), ?_⟩
    refine iteF (A := True) ?_
    refine ⟨fun σ H' => ∃ r, σ = [some (.str (wdS .slots)), some (.ref a), some (vi x), some (vi p), some (.ref r), none, none, none, none, none] ∧ Same H H' ∧ RunAt K g H' r rows, ⟨_, rfl, a, g, o, rows, rfl, t2, ld, by omega, hg, fun r H1 e1 R1 => ⟨r, rfl, e1, R1⟩⟩, ?_⟩
    rintro σ H1 ⟨r, rfl, e1, R⟩
    obtain ⟨dx, pp, s1, ss, q1, _⟩ := id R
    refine ⟨_, rfl, rfl, false, (show V.bl (decide (V.str ("slots" : Str) = V.str ("given" : Str))) = V.bl false by decide +kernel), ?_⟩
    refine iteF (A := True) ?_
    refine ⟨_, rfl, rfl, false, (show V.bl (decide (V.str ("slots" : Str) = V.str ("groups" : Str))) = V.bl false by decide +kernel), ?_⟩
    refine iteF (A := True) ?_
    refine ⟨_, rfl, rfl, true, (show V.bl (decide (V.str ("slots" : Str) = V.str ("slots" : Str))) = V.bl true by decide +kernel), ?_⟩
    refine iteT (B := True) ?_
    obtain ⟨as0, ha0, ra0⟩ := id t2
    refine ⟨fun σ H' => ∃ D, σ = [some (.str (wdS .slots)), some (.ref a), some (vi x), some (vi p), some (.ref r), none, some (.ref D), none, none, none] ∧ Same H1 H' ∧ H1 D = none ∧ H' D = some (.lst []), ⟨l0, fun D hD => ⟨D, rfl, Same.new hD, hD, upd_same⟩⟩, ?_⟩
    rintro σ H2 ⟨D, rfl, e2, hD, q2⟩
    have tl := (bits_len rows).2
    refine ⟨_, rfl, _, _, rfl, .inr ⟨_, .of (e2 _ _ (e1 _ _ ha0)), rfl⟩, _, rfl, by rw [List.length_map, ra0.1]; omega, by rw [List.length_map, ra0.1]; omega, ?_⟩
    rw [List.length_map, ra0.1, Int.toNat_natCast]
    refine for_range (n := rows.length) (fun i σ H' => ∃ v, σ = [some (.str (wdS .slots)), some (.ref a), some (vi x), some (vi p), some (.ref r), none, some (.ref D), v, none, none] ∧ Same H1 H' ∧ H' D = some (.lst (((slL rows).take i).map V.int)) ∧ i ≤ rows.length) ⟨none, rfl, e2, q2, Nat.zero_le _⟩ ?_ ?_
    · rintro i σ H3 hi ⟨v, rfl, e3, q3, hi3⟩
      have R3 := R.same e3
      obtain ⟨dx', pp', s1', ss', q1', _⟩ := id R3
      refine ⟨_, rfl, .inl ⟨rfl, _, .of q3⟩, _, rfl, r, dx', _, rfl, q1', rfl, _, rfl, r, g, rows, i, by rw [Int.zero_add], R3, fun _ c t et ta => ?_, fun c => absurd hi c⟩
      obtain ⟨et', ta1, ta2⟩ := ta
      have ev : (slL rows)[i]? = some (t.1 : Int) := by
        unfold slL
        rw [List.getElem?_map, et]
        rfl
      refine ⟨c, _, 0, _, rfl, rfl, .of ta1, rfl, D, _, _, rfl, rfl, q3, ?_, _, rfl, same_upd hD e3, ?_, hi⟩
      · rw [List.length_map, List.length_take]
        exact small1000 (by omega)
      · rw [upd_same, take_snoc ev, List.map_append]
        rfl
    · rintro σ H3 ⟨v, rfl, e3, q3, hi3⟩
      have sl : (slL rows).length = rows.length := by
        unfold slL
        rw [List.length_map, tl]
      rw [← sl, List.take_length] at q3
      have few := slF_le rows rows.length
      refine ⟨_, rfl, D, slL rows, rfl, .of q3, by omega, _, rfl, ?_, ?_⟩
      · rw [sl]
        exact log_small (by rw [Int.natAbs_natCast]; show (slF rows rows.length).length < _; omega)
      · rw [sl]
        exact k H3 (e1.trans e3)
  | width =>
    refine ⟨_, (pss_cons (ps_if (pt_cmpR op_eq (pv 0) pe_str (nomark _)) pss_never pss_nil)
      (pss_cons (ps_if (pt_cmpR op_eq (pv 0) pe_str (nomark _)) pss_never pss_nil)
      (pss_cut (ps_set (i := 4) nd rfl (Or.inl rfl) (pe_cal (E := E0) DR hr (by rfl) T.g_law_runtime passL (pa_cons (pv 1) pa_nil)))
      (pss_cons (ps_if (pt_cmpR op_eq (pv 0) pe_str (nomark _)) pss_never pss_nil)
      (pss_cons (ps_if (pt_cmpR op_eq (pv 0) pe_str (nomark _)) pss_never pss_nil)
      (pss_cons (ps_if (pt_cmpR op_eq (pv 0) pe_str (nomark _)) pss_never pss_nil)
      (pss_one (ps_ret (pe_callTy call_str_int (by rfl) T.b_str (by decide +kernel) (pa_cons (pe_cal (DW.mono (by decide : 6 ≤ 8)) hr (by rfl) T.g_width pass0 (pa_cons (pe_met0 (pv 4) T.c_Runtime T.m_Runtime_book (DB.mono (by decide : 1 ≤ 8)) hr pass0) pa_nil)) pa_nil)))))))))), ?_⟩
    refine ⟨_, rfl, rfl, false, (show V.bl (decide (V.str ("width" : Str) = V.str ("show" : Str))) = V.bl false by decide +kernel), ?_⟩
    refine iteF (A := True) ?_
    refine ⟨_, rfl, rfl, false, (show V.bl (decide (V.str ("width" : Str) = V.str ("ask" : Str))) = V.bl false by decide +kernel), ?_⟩
    refine iteF (A := True) ?_
    refine ⟨fun σ H' => ∃ r, σ = [some (.str (wdS .width)), some (.ref a), some (vi x), some (vi p), some (.ref r), none, none, none, none, none] ∧ Same H H' ∧ RunAt K g H' r rows, ⟨_, rfl, a, g, o, rows, rfl, t2, ld, by omega, hg, fun r H1 e1 R1 => ⟨r, rfl, e1, R1⟩⟩, ?_⟩
    rintro σ H1 ⟨r, rfl, e1, R⟩
    obtain ⟨dx, pp, s1, ss, q1, _⟩ := id R
    refine ⟨_, rfl, rfl, false, (show V.bl (decide (V.str ("width" : Str) = V.str ("given" : Str))) = V.bl false by decide +kernel), ?_⟩
    refine iteF (A := True) ?_
    refine ⟨_, rfl, rfl, false, (show V.bl (decide (V.str ("width" : Str) = V.str ("groups" : Str))) = V.bl false by decide +kernel), ?_⟩
    refine iteF (A := True) ?_
    refine ⟨_, rfl, rfl, false, (show V.bl (decide (V.str ("width" : Str) = V.str ("slots" : Str))) = V.bl false by decide +kernel), ?_⟩
    refine iteF (A := True) ?_
    have ws := width_small rows (by omega)
    exact ⟨_, rfl, r, dx, _, rfl, q1, rfl, r, g, rows, rfl, R, fun b B => ⟨b, g, rows, rfl, B, by omega, fun H' e => ⟨_, rfl, log_small (by omega), k H' (e1.trans e)⟩⟩⟩
end
end Lk
set_option Elab.async false
set_option linter.all false
set_option maxRecDepth 100000
set_option maxHeartbeats 4000000
namespace Lk
open PySem PySem.Spec PyProof.Rows L2
open He (ga ma)
section
variable {P : Program} {w : World} {K : PySem.W.Frag} {mg : Str → Option Value} {base : Heap}
def Kp (M : List Addr) (H H' : Hp) : Prop := ∀ a o, a ∉ M → H a = some o → H' a = some o
def ansL : Ans → List Str
  | .told s => ["told", s]
  | .book n => ["book", n]
  | .kind => ["kind"]
  | .bad => ["bad"]
  | .undo => ["undo"]
theorem ansV_eq (a : Ans) : ansV a = (ansL a).map V.str := by cases a <;> rfl
theorem dp_all {H : Hp} : ∀ l : List Str, DpAll K H (l.map V.str) (l.map PyData.str)
  | [] => .nil
  | a :: r => .cons (.str a) (dp_all r)
theorem dp_strs {H : Hp} {p : Addr} {l : List Str} (h : H p = some (.tup (l.map V.str))) : Dp K H (.ref p) (.tuple (l.map PyData.str)) := .tup (.of h) (dp_all l)
theorem eqv_strs : ∀ l : List Str, PyData.eqv (.tuple (l.map PyData.str)) (.tuple (l.map PyData.str)) = true := by
  intro l
  rw [PyData.eqv]
  induction l with
  | nil => rfl
  | cons a r ih =>
    rw [List.map_cons, PyData.eqvAll, ih, PyData.eqv]
    simp
def SOk (x : Str) : Prop := ∀ c ∈ TL.tl x, c < 1114112
theorem sok_of (x : String) : SOk (Str.ofString x) := fun c hc => by
  rw [TL.tl_ofString] at hc
  obtain ⟨ch, _, rfl⟩ := List.mem_map.mp hc
  rcases ch.valid with h | h
  · exact Nat.lt_trans h (by decide)
  · exact h.2
theorem sok_app {x y : Str} (hx : SOk x) (hy : SOk y) : SOk (x ++ y) := fun c hc => by
  rw [TL.tl_append] at hc
  rcases List.mem_append.mp hc with h | h
  · exact hx c h
  · exact hy c h
theorem sok_join {b : Str} {ys : List Str} (hb : SOk b) (h : ∀ y ∈ ys, SOk y) : SOk (Txt.join b ys) := fun c hc => by
  rw [TL.join_eq, TL.tl_join] at hc
  rcases joinL_mem hc with hc | ⟨p, m, hc⟩
  · exact hb c hc
  · obtain ⟨y, hy, rfl⟩ := List.mem_map.mp m
    exact h y hy c hc
theorem sok_name {x : Str} (h : NameOk x) : SOk x := fun c hc => by
  have := h.2.2 c hc
  omega
theorem sok_jM (ns : List Nat) {b : Str} (hb : SOk b) : SOk (jM ns b) := by
  cases ns with
  | nil => exact sok_of _
  | cons n r =>
    refine sok_join hb fun y hy => ?_
    obtain ⟨z, _, rfl⟩ := List.mem_map.mp hy
    exact sok_of _
theorem sok_rowsT (rows : List (List Nat)) {e : Str} (he : SOk e) : SOk (rowsT rows e) := by
  refine sok_join (sok_of _) fun y hy => ?_
  obtain ⟨r, _, rfl⟩ := List.mem_map.mp hy
  exact sok_app (sok_jM r (sok_of _)) he
theorem sok_shT (rows : List (List Nat)) : SOk (shT rows) := by
  cases rows with
  | nil => exact sok_of _
  | cons r t => exact sok_rowsT (r :: t) (sok_of _)
theorem sok_grT (gs : List (List Nat)) : SOk (grT gs) := by
  cases gs with
  | nil => exact sok_of _
  | cons g r =>
    refine sok_join (sok_of _) fun y hy => ?_
    obtain ⟨z, _, rfl⟩ := List.mem_map.mp hy
    exact sok_jM z (sok_of _)
theorem sok_yn (b : Bool) : SOk (yn b) := by cases b <;> exact sok_of _
theorem sok_giv (t : Trip) : SOk (givM t) := sok_app (sok_app (sok_app (sok_app (sok_of _) (sok_of _)) (sok_of _)) (sok_of _)) (sok_jM _ (sok_of _))
theorem sok_res (rows : List (List Nat)) (x p : Nat) (wd : Wd) : SOk (resM rows x p wd) := by
  cases wd with
  | sho => exact sok_shT rows
  | ask => exact sok_yn _
  | given => exact sok_giv _
  | groups => exact sok_grT _
  | slots => exact sok_of _
  | width => exact sok_of _
def AnS : Ans → Prop
  | .told s => SOk s
  | .book n => SOk n
  | _ => True
theorem strOk_of {x : Str} (h : SOk x) : PyData.strOk x = true := by
  unfold PyData.strOk
  rw [← Array.all_toList, List.all_eq_true]
  intro c hc
  exact decide_eq_true (h c hc)
theorem shaped_ans {a : Ans} (h : AnS a) : SeqAt.shaped (.tuple ((ansL a).map PyData.str)) = true := by
  cases a <;> simp [SeqAt.shaped, ansL, PyData.canLay0, PyData.canLayAll0, PyData.depth, PyData.depthAll, sizeLine] <;> first | exact ⟨strOk_of (sok_of _), strOk_of h⟩ | exact strOk_of (sok_of _)
/-! ### the law's tables -/
def RowV (H : Hp) (v : V) (rows : List (List Nat)) : Prop := ∃ a, v = .ref a ∧ TT2 H a rows
def TabL (H : Hp) (a : Addr) (t : Tab) : Prop := ∃ kvs, H a = some (.dK kvs) ∧ AllAt (EnT (RowV H)) kvs t
def TblAt (H : Hp) (t : Addr) (tabs : List Tab) : Prop := ∃ as : List Addr, H t = some (.lst (as.map V.ref)) ∧ AllAt (TabL H) as tabs
theorem TabL.pe {g : Addr} {H H' : Hp} {a : Addr} {t : Tab} (e : Pe g H H') (h : TabL H a t) : TabL H' a t := by
  obtain ⟨kvs, h1, h2⟩ := h
  exact ⟨kvs, e.2 _ _ h1, h2.imp fun kv en ⟨x, r, b, c⟩ => ⟨x, r, b, TT2.pe e.1 c⟩⟩
theorem TblAt.pe {g : Addr} {H H' : Hp} {t : Addr} {tabs : List Tab} (e : Pe g H H') (ht : ∀ o, H t = some o → H' t = some o) (h : TblAt H t tabs) : TblAt H' t tabs := by
  obtain ⟨as, h1, h2⟩ := h
  exact ⟨as, ht _ h1, h2.imp fun _ _ r => r.pe e⟩
/-- the flow alone is written -/
theorem pe_flow {f g : Addr} {H H' : Hp} (F : FlowAt H f g) (b : But2 f g H H') : Pe g H H' := by
  obtain ⟨ns, x, y, z, h1, h2⟩ := F
  refine ⟨fun a o h fx => b a o (fun c => ?_) (fun c => ?_) h, fun a kvs h => b a _ (fun c => ?_) (fun c => ?_) h⟩
  · subst c
    rw [h1] at h
    cases h
    obtain ⟨_, ms, e⟩ := fx
    cases ms with
    | nil => cases e
    | cons m r => cases e
  · subst c
    rw [h2] at h
    cases h
    exact fx.1 rfl
  · subst c
    rw [h1] at h
    cases h
  · subst c
    rw [h2] at h
    cases h
/-- the law's list of tables alone is written -/
theorem pe_tbl {g t : Addr} {H H' : Hp} {tabs : List Tab} (T : TblAt H t tabs) (hne : tabs ≠ []) (b : But t H H') : Pe g H H' := by
  obtain ⟨as, h1, h2⟩ := T
  refine ⟨fun a o h fx => b a o (fun c => ?_) h, fun a kvs h => b a _ (fun c => ?_) h⟩
  · subst c
    rw [h1] at h
    cases h
    obtain ⟨_, ms, e⟩ := fx
    cases as with
    | nil => exact hne (List.length_eq_zero_iff.mp h2.1.symm)
    | cons m r =>
      cases ms with
      | nil => cases e
      | cons m r => cases e
  · subst c
    rw [h1] at h
    cases h
/-- all of the law's state -/
structure LawAt (K : PySem.W.Frag) (H : Hp) (f g d t : Addr) (tabs : List Tab) : Prop where
  fl : FlowAt H f g
  dk : DeskAt K g H d tabs
  tb : TblAt H t tabs
structure RsOk (tabs : List Tab) : Prop where
  few : tabs.length ≤ 52
  each : ∀ (i : Nat) tb, tabs[i]? = some tb → tb.length ≤ i
  ok : ∀ tb ∈ tabs, ∀ e ∈ tb, NameOk e.1 ∧ Ld e.2 ∧ e.2.length ≤ 9
theorem Ld.wfr {rows : List (List Nat)} (h : Ld rows) (hl : rows.length ≤ 10) : WfR rows := ⟨hl, (h.rw hl).few, h.wf⟩
theorem RsOk.ts {tabs : List Tab} (h : RsOk tabs) : TsOk tabs := ⟨Nat.le_trans h.few (by decide), h.each, fun tb m e me => ⟨(h.ok tb m e me).1, (h.ok tb m e me).2.1.wfr (Nat.le_trans (h.ok tb m e me).2.2 (by decide))⟩⟩
section
variable {H : Hp} {f g d t : Addr} {tabs : List Tab}
theorem LawAt.ne (L : LawAt K H f g d t tabs) (hn : tabs ≠ []) : f ≠ g ∧ f ≠ d ∧ f ≠ t ∧ g ≠ d ∧ g ≠ t ∧ d ≠ t := by
  obtain ⟨ns, x, y, z, f1, f2⟩ := L.fl
  obtain ⟨dx, p, as, d1, _, _⟩ := L.dk
  obtain ⟨bs, t1, t2⟩ := L.tb
  have hb : ∃ b r, bs = b :: r := by
    cases bs with
    | nil => exact absurd (List.length_eq_zero_iff.mp t2.1.symm) hn
    | cons b r => exact ⟨b, r, rfl⟩
  obtain ⟨b, r, rfl⟩ := hb
  refine ⟨flow_ne (y := .non) f1 f2, ne_of f1 d1 (by intro c; cases c), ne_of f1 t1 (fun c => ?_), ne_of f2 d1 (by intro c; cases c), ne_of f2 t1 (fun c => ?_), ne_of d1 t1 (by intro c; cases c)⟩
  · injection c with c
    cases r with
    | nil => cases c
    | cons _ _ => cases c
  · injection c with c
    cases ns with
    | nil => cases c
    | cons _ _ => cases c
theorem LawAt.keep {H' : Hp} (L : LawAt K H f g d t tabs) (s : Same H H') : LawAt K H' f g d t tabs := ⟨L.fl.keep s, L.dk.same s, L.tb.pe (g := g) (.of s) (s t)⟩
/-- behind a draw -/
theorem LawAt.drawn {H' : Hp} (L : LawAt K H f g d t tabs) (hn : tabs ≠ []) (F : FlowAt H' f g) (b : But2 f g H H') : LawAt K H' f g d t tabs := by
  obtain ⟨n1, n2, n3, n4, n5, n6⟩ := L.ne hn
  have pe := pe_flow L.fl b
  exact ⟨F, L.dk.pe pe (fun o h => b d o n2.symm n4.symm h), L.tb.pe pe (fun o h => b t o n3.symm n5.symm h)⟩
theorem But.flow {H' : Hp} {x : Addr} (b : But x H H') (h1 : f ≠ x) (h2 : g ≠ x) (F : FlowAt H f g) : FlowAt H' f g := by
  obtain ⟨ns, x, y, z, f1, f2⟩ := F
  exact ⟨ns, x, y, z, b _ _ h1 f1, b _ _ h2 f2⟩
/-- behind a line told to the desk -/
theorem LawAt.told {H' : Hp} {tabs' : List Tab} (L : LawAt K H f g d t tabs) (hn : tabs ≠ []) (b : But d H H') (D : DeskAt K g H' d tabs') : FlowAt H' f g ∧ TblAt H' t tabs := by
  obtain ⟨n1, n2, n3, n4, n5, n6⟩ := L.ne hn
  obtain ⟨dx, p, as, d1, _, _⟩ := L.dk
  exact ⟨b.flow n2 n4 L.fl, L.tb.pe (pe_desk (g := g) d1 b) (fun o h => b t o n6.symm h)⟩
end
theorem line1 (a : Str) : lineT [a] = a := TL.ext_tl (by unfold lineT; rw [TL.join_eq, TL.tl_join]; rfl)
theorem line2 (a b : Str) : lineT [a, b] = a ++ " " ++ b := TL.ext_tl (by
  unfold lineT
  rw [TL.join_eq, TL.tl_join, TL.tl_append, TL.tl_append, List.append_assoc]
  rfl)
theorem line3 (a b c : Str) : lineT [a, b, c] = a ++ " " ++ b ++ " " ++ c := TL.ext_tl (by
  unfold lineT
  rw [TL.join_eq, TL.tl_join, TL.tl_append, TL.tl_append, TL.tl_append, TL.tl_append]
  show TL.tl a ++ (TL.tl " " ++ (TL.tl b ++ (TL.tl " " ++ TL.tl c))) = _
  simp only [List.append_assoc])
theorem line4 (a b c d : Str) : lineT [a, b, c, d] = a ++ " " ++ b ++ " " ++ c ++ " " ++ d := TL.ext_tl (by
  unfold lineT
  rw [TL.join_eq, TL.tl_join]
  simp only [TL.tl_append, List.append_assoc]
  rfl)
theorem sp_new : ("new " : Str) = ("new" : Str) ++ " " := by decide +kernel
theorem sp_show : ("show " : Str) = ("show" : Str) ++ " " := by decide +kernel
theorem sp_drop : ("drop " : Str) = ("drop" : Str) ++ " " := by decide +kernel
theorem sp_load : ("load " : Str) = ("load" : Str) ++ " " := by decide +kernel
theorem sp_width : ("width " : Str) = ("width" : Str) ++ " " := by decide +kernel
theorem sp_slots : ("slots " : Str) = ("slots" : Str) ++ " " := by decide +kernel
theorem sp_groups : ("groups " : Str) = ("groups" : Str) ++ " " := by decide +kernel
end
end Lk
set_option Elab.async false
set_option linter.all false
set_option maxRecDepth 100000
set_option maxHeartbeats 4000000
namespace Lk
open PySem PySem.Spec PyProof.Rows L2
open He (ga ma)
section
variable {P : Program} {w : World} {K : PySem.W.Frag} {mg : Str → Option Value} {base : Heap}
theorem cmp_ok {H : Hp} {p q : Addr} {a : Ans} {Q : VK} (hp : H p = some (.tup (ansV a))) (hq : H q = some (.tup ((ansL a).map V.str))) (h : AnS a) (k : Q (.bl true) H) : rEqD K (.ref p) (.ref q) H Q :=
  ⟨_, _, dp_strs (by rw [← ansV_eq]; exact hp), dp_strs hq, shaped_ans h, shaped_ans h, by rw [eqv_strs]; exact k⟩
theorem cmp_no {H : Hp} {p q : Addr} {a : Ans} {Q : VK} (hp : H p = some (.tup (ansV a))) (hq : H q = some (.tup ((ansL a).map V.str))) (h : AnS a) (k : Q (.bl false) H) : rNeD K (.ref p) (.ref q) H Q :=
  ⟨_, _, dp_strs (by rw [← ansV_eq]; exact hp), dp_strs hq, shaped_ans h, shaped_ans h, by rw [eqv_strs]; exact k⟩
theorem kp_but {M : List Addr} {x : Addr} {H H' : Hp} (h : x ∈ M) (b : But x H H') : Kp M H H' := fun a o n e => b a o (fun c => n (c ▸ h)) e
theorem Kp.trans {M : List Addr} {H H1 H2 : Hp} (a : Kp M H H1) (b : Kp M H1 H2) : Kp M H H2 := fun x o n h => b x o n (a x o n h)
theorem Kp.of {M : List Addr} {H H' : Hp} (s : Same H H') : Kp M H H' := fun a o _ h => s a o h
theorem Kp.mono {M N : List Addr} {H H' : Hp} (h : Kp M H H') (s : ∀ a ∈ M, a ∈ N) : Kp N H H' := fun a o n e => h a o (fun c => n (s a c)) e
def spLUndo (K : PySem.W.Frag) : Sp := fun vs H Q _ => ∃ (d t g : Addr) (o : HO) (tabs : List Tab) (tb : Tab), vs = [.ref d, .ref t] ∧ DeskAt K g H d (tabs ++ [tb]) ∧ TblAt H t (tabs ++ [tb]) ∧ RsOk (tabs ++ [tb]) ∧ H g = some o ∧ g ≠ d ∧ t ≠ d ∧
  ∀ H' tabs', (tabs ≠ [] → tabs' = tabs) → (tabs = [] → tabs' = [tb]) → Kp [d, t] H H' → DeskAt K g H' d tabs' → TblAt H' t tabs' → Q (.bl true) H'
theorem ok_law_undo (PO : ProgOk P) (T : Tx K mg) (F : Fx K) (X : Ex w K) : DefOk P w K mg base (L2.CX P w) 11 (ga K "_law_undo") ["_law_desk", "_law_tables"] (spLUndo K) := by
  have DT := ok_law_tell (base := base) PO T F X
  have nd := sc_law_undo.nd
  refine def_ok F.f_law_undo bd_law_undo sc_law_undo (fun vs H Q E h => ?_) (fun cdv A outer s0 H vs Q E hr h => ?_)
  · obtain ⟨d, t, g, o, tabs, tb, rfl, _⟩ := h
    rfl
  · obtain ⟨d, t, g, o, tabs, tb, rfl, Dk, Tb, RO, hg, gd, td, k⟩ := h
    refine ⟨_, pss_cut (ps_set (i := 2) nd rfl (Or.inl rfl) (pe_cal (E := E0) DT hr (by rfl) T.g_law_tell passL (pa_cons (pv 0) (pa_cons pe_str pa_nil))))
      (pss_cons (ps_if (pt_cmpR op_eq (pe_callB call_len (by rfl) T.b_len (by decide +kernel) (pa_cons (pv 1) pa_nil)) pe_int (nomark _)) (pss_one (ps_ret (pe_cmpR (op_eqD hr.units) (pv 2) (pe_tup (pa_cons pe_str pa_nil)) (nomark _)))) pss_nil)
      (pss_cons (ps_expr (pe_bm0 PySem.F.plainAttrs_list PySem.F.slot_list_pop PySem.F.type_list_pop mt_pop (pv 1)))
      (pss_one (ps_ret (pe_cmpR (op_eqD hr.units) (pv 2) (pe_tup (pa_cons pe_str (pa_cons pe_str pa_nil))) (nomark _)))))), ?_⟩
    refine ⟨fun σ H' => ∃ p, σ = [some (.ref d), some (.ref t), some (.ref p)] ∧ But d H H' ∧ DeskAt K g H' d (tellM tabs tb .undo).2 ∧ H' p = some (.tup (ansV (tellM tabs tb .undo).1)), ⟨_, rfl, d, g, o, tabs, tb, .undo, by rw [show lineT (deedC .undo :: argsC .undo) = ("undo" : Str) from line1 _], Dk, RO.ts, trivial, hg, gd, fun H1 p b D1 h1 => ⟨p, rfl, b, D1, h1⟩⟩, ?_⟩
    rintro σ H1 ⟨p, rfl, b1, D1, hp⟩
    obtain ⟨dx, tp, as0, d1, _, _⟩ := id Dk
    have Tb1 : TblAt H1 t (tabs ++ [tb]) := Tb.pe (pe_desk (g := g) d1 b1) (fun o h => b1 t o td h)
    have kp1 : Kp [d, t] H H1 := kp_but (by simp) b1
    obtain ⟨bs, t1, t2⟩ := id Tb1
    obtain ⟨bs', b', rfl, t3, t4⟩ := t2.last
    have ptd : p ≠ t := ne_of hp t1 (by intro c; cases c)
    refine ⟨_, rfl, _, _, rfl, .inl ⟨_, .of t1, rfl⟩, rfl, _, rfl, ?_⟩
    have e0 : decide (V.int (((((bs' ++ [b']).map V.ref).length : Nat)) : Int) = V.int 1) = decide (tabs.length = 0) := by
      rw [List.length_map, List.length_append, t3.1]
      exact (dec_vi (tabs.length + 1) 1).trans (decide_eq_decide.mpr (by omega))
    rw [e0]
    cases tabs with
    | nil =>
      refine iteT (B := True) ?_
      refine ⟨_, rfl, l1, fun q hq => cmp_ok (a := .undo) (Same.new hq _ _ hp) upd_same trivial ?_⟩
      exact k _ [tb] (fun c => absurd rfl c) (fun _ => rfl) (kp1.trans (Kp.of (Same.new hq))) (D1.same (Same.new hq)) (Tb1.pe (g := g) (.of (Same.new hq)) (Same.new hq t))
    | cons a r =>
      rw [decide_eq_false (by simp)]
      refine iteF (A := True) ?_
      refine ⟨_, rfl, .inl ⟨rfl, _, .of t1⟩, t, _, .ref b', rfl, rfl, t1, by rw [List.length_map, List.length_append, List.map_append]; show _[bs'.length + 1 - 1]? = _; rw [Nat.add_sub_cancel, List.getElem?_append_right (by rw [List.length_map]; exact Nat.le_refl _), List.length_map, Nat.sub_self]; rfl, ?_⟩
      have edl : ((bs' ++ [b']).map V.ref).dropLast = bs'.map V.ref := by
        rw [List.map_append]
        exact List.dropLast_concat
      rw [edl]
      have bt : But t H1 (upd H1 t (.lst (bs'.map V.ref))) := But.upd
      have pe2 := pe_tbl (g := g) Tb1 (by simp) bt
      have D2 : DeskAt K g (upd H1 t (.lst (bs'.map V.ref))) d (a :: r) := DeskAt.pe (tabs := a :: r) pe2 (fun o h => bt d o td.symm h) D1
      have T2 : TblAt (upd H1 t (.lst (bs'.map V.ref))) t (a :: r) := ⟨bs', upd_same, t3.imp fun _ _ h => h.pe pe2⟩
      refine ⟨_, rfl, l2, fun q hq => cmp_ok (a := .told "ok") (Same.new hq _ _ (by rw [upd_ne ptd]; exact hp)) upd_same (sok_of _) ?_⟩
      exact k _ (a :: r) (fun _ => rfl) (fun c => by cases c) ((kp1.trans (kp_but (by simp) bt)).trans (Kp.of (Same.new hq))) (D2.same (Same.new hq)) (T2.pe (g := g) (.of (Same.new hq)) (Same.new hq t))
/-! ### names in order -/
theorem lc_keys {d : Addr} {od : Obj} {kvs : List (Key × V)} {g : TG} {tt : TT} {te : TE} {vs : List Nat} {σ : L2.St} {H1 : Hp} {D : Addr} {Qd : Hp → Prop} (Pv : Nat → Hp → Prop) (h0 : Pv 0 (upd H1 D (.lst []))) (hl : ∀ i H, Pv i H → H d = some (.frz od (.dK kvs)))
    (hs : ∀ i k v H, kvs[i]? = some (k, v) → Pv i H → g (kV k) (wipe σ vs) H fun σ2 H2 => wipe σ2 vs = wipe σ vs ∧ tt σ2 H2 fun b H3 =>
      if b = true then te σ2 H3 fun y H4 => ∃ acc, H4 D = some (.lst acc) ∧ acc.length < sizeLine ∧ Pv (i + 1) (upd H4 D (.lst (acc ++ [y]))) else Pv (i + 1) H3) (hd : ∀ H, Pv kvs.length H → Qd H) :
    ∃ W : Nat → Nat → Hp → Prop, (∃ m, W 0 m (upd H1 D (.lst []))) ∧ ∀ i m H, W i m H →
      ((Itk d od kvs).stop i H ∧ Qd H) ∨ ((Itk d od kvs).go i H ∧ ∃ Nx : Hp → Prop, (∀ H', Nx H' → ∃ m', m' < m ∧ W (i + 1) m' H') ∧ ∀ y H', (Itk d od kvs).yld i H y H' → g y (wipe σ vs) H' fun σ2 H2 => wipe σ2 vs = wipe σ vs ∧ tt σ2 H2 fun b H3 =>
        if b = true then te σ2 H3 fun y H4 => ∃ acc, H4 D = some (.lst acc) ∧ acc.length < sizeLine ∧ Nx (upd H4 D (.lst (acc ++ [y]))) else Nx H3) := by
  refine ⟨fun i m H => m = kvs.length - i ∧ i ≤ kvs.length ∧ Pv i H, ⟨_, rfl, Nat.zero_le _, h0⟩, ?_⟩
  rintro i m H ⟨rfl, hi, p⟩
  by_cases hlt : i < kvs.length
  · refine .inr ⟨⟨hl i H p, hlt⟩, Pv (i + 1), fun H' p' => ⟨kvs.length - (i + 1), by omega, rfl, hlt, p'⟩, fun y H' ⟨e, k, v, hk, ey⟩ => ?_⟩
    subst e ey
    exact hs i k v _ hk p
  · obtain rfl : i = kvs.length := by omega
    exact .inl ⟨⟨hl _ H p, Nat.le_refl _⟩, hd H p⟩
def spStands (K : PySem.W.Frag) : Sp := fun vs H Q _ => ∃ (d a g : Addr) (o : HO) (tabs : List Tab) (tb : Tab), vs = [.ref d, .ref a] ∧ DeskAt K g H d (tabs ++ [tb]) ∧ TabL H a tb ∧ RsOk (tabs ++ [tb]) ∧ H g = some o ∧ g ≠ d ∧
  ∀ H', But d H H' → DeskAt K g H' d (tabs ++ [tb]) → Q (.bl true) H'
theorem ok_law_stands (PO : ProgOk P) (T : Tx K mg) (F : Fx K) (X : Ex w K) : DefOk P w K mg base (L2.CX P w) 11 (ga K "_law_stands") ["_law_desk", "_law_table"] (spStands K) := by
  have DT := ok_law_tell (base := base) PO T F X
  have DA := ok_law_answer (base := base) PO T F X
  have DN := ok_law_none (P := P) (w := w) (base := base) T F
  have nd := sc_law_stands.nd
  refine def_ok F.f_law_stands bd_law_stands sc_law_stands (fun vs H Q E h => ?_) (fun cdv A outer s0 H vs Q E hr h => ?_)
  · obtain ⟨d, a, g, o, tabs, tb, rfl, _⟩ := h
    rfl
  · obtain ⟨d, a, g, o, tabs, tb, rfl, Dk, ⟨kvs, ha, ra⟩, RO, hg, gd, k⟩ := h
    obtain ⟨tl1, tl2, tl3⟩ := ts_last RO.ts
    have tl4 : ∀ e ∈ tb, NameOk e.1 ∧ Ld e.2 ∧ e.2.length ≤ 9 := RO.ok tb (by simp)
    obtain ⟨dx, tp, as0, d1, _, _⟩ := id Dk
    have ad : a ≠ d := ne_of ha d1 (by intro c; cases c)
    refine ⟨_, pss_cut (ps_set (i := 2) nd rfl (Or.inl rfl) (pe_callB cr_sortedS (by rfl) T.b_sorted (by decide +kernel) (pa_cons (pe_lock (pe_lc (own := [("_law_name_here", 3)]) (g := gName 3) (tt := tYes) rfl nd (pi_keys (pv 1)) (blkOk_by (N := N_law_stands) (sc := defScope s_law_stands) (by decide +kernel))
        (fun _ _ _ _ _ => pg_name (i := 3) nd rfl (Or.inl rfl)) (fun _ _ _ _ _ => pts_nil) (fun _ _ _ _ _ => pv 3))) pa_nil)))
      (pss_cut (ps_if (pt_cmpR (op_neD hr.units) (pe_cal (E := E0) DT hr (by rfl) T.g_law_tell passL (pa_cons (pv 0) (pa_cons pe_str pa_nil))) (pe_tup (pa_cons pe_str (pa_cons (pe_cal (DN.mono (by decide : 1 ≤ 10)) hr (by rfl) T.g_law_none pass0 (pa_cons (pv 2) pa_nil)) pa_nil))) (nomark _)) pss_never pss_nil)
      (pss_cons (ps_for (passes_of rfl) rfl (pi_list (pv 2)) (pg_name (i := 3) nd rfl (Or.inl rfl))
        (pss_one (ps_if (pt_cmpR (op_neD hr.units) (pe_cal (E := E0) DT hr (by rfl) T.g_law_tell passL (pa_cons (pv 0) (pa_cons (pe_op op_add_str pe_str (pv 3)) pa_nil)))
          (pe_tup (pa_cons pe_str (pa_cons (pe_cal (E := E0) (DA.mono (by decide : 9 ≤ 10)) hr (by rfl) T.g_law_answer passL (pa_cons pe_str (pa_cons (pe_dget (hu_of hr) (pv 1) (pv 3) (fun _ _ => rfl)) (pa_cons pe_int (pa_cons pe_int pa_nil))))) pa_nil))) (nomark _)) pss_never pss_nil)))
      (pss_one (ps_ret pe_bl)))), ?_⟩
    refine ⟨fun σ H' => ∃ nl, σ = [some (.ref d), some (.ref a), some (.ref nl), none] ∧ Same H H' ∧ H' nl = some (.lst ((nmL tb).map V.str)), ?_, ?_⟩
    · refine ⟨a, _, ha, trivial, fun od => ?_⟩
      have hfz : upd H a (.frz od (.dK kvs)) a = some (.frz od (.dK kvs)) := upd_same
      refine ⟨_, rfl, a, od, rfl, .inl ⟨kvs, hfz, fun D hD => lc_keys (fun i H' => (∀ b u, b ≠ a → H b = some u → H' b = some u) ∧ H' a = some (.frz od (.dK kvs)) ∧ D ≠ a ∧ H' D = some (.lst (((tb.map (·.1)).take i).map V.str)) ∧ i ≤ kvs.length) ?_ (fun i H' ⟨_, z, _⟩ => z) ?_ ?_⟩⟩
      · have Da : D ≠ a := (ne_of_none hfz hD).symm
        refine ⟨fun b u nb h => ?_, by rw [upd_ne Da.symm]; exact hfz, Da, upd_same, Nat.zero_le _⟩
        have hb : upd H a (.frz od (.dK kvs)) b = some u := by rw [upd_ne nb]; exact h
        exact Same.new hD _ _ hb
      · rintro i kk v H' hk ⟨e, z, Da, q, hi⟩
        have hi1 : i < kvs.length := (List.getElem?_eq_some_iff.mp hk).1
        obtain ⟨en, hen, er, _⟩ := ra.get' hk
        have hen2 : (tb.map (·.1))[i]? = some en.1 := by rw [List.getElem?_map, hen]; rfl
        have er : kk = .inr en.1 := er
        subst er
        refine ⟨rfl, ?_⟩
        refine iteT (B := True) ?_
        refine ⟨_, rfl, _, q, ?_, fun b u nb h => ?_, by rw [upd_ne Da.symm]; exact z, Da, ?_, hi1⟩
        · rw [List.length_map, List.length_take]
          rw [ra.1] at hi1
          exact small1000 (by omega)
        · have : b ≠ D := fun c => by
            subst c
            have := e b u nb h
            have hD' : upd H a (.frz od (.dK kvs)) b = none := hD
            rw [upd_ne nb, h] at hD'
            cases hD'
          rw [upd_ne this]
          exact e b u nb h
        · rw [upd_same, take_snoc hen2, List.map_append]
          rfl
      · rintro H' ⟨e, z, Da, q, hi⟩
        have elen : kvs.length = (tb.map (·.1)).length := by rw [ra.1, List.length_map]
        rw [elen, List.take_length] at q
        refine ⟨z, ?_⟩
        have s1 : Same H (upd H' a (.dK kvs)) := fun b u h => by
          by_cases c : b = a
          · subst c
            rw [upd_same, ← ha]
            exact h
          · rw [upd_ne c]
            exact e b u c h
        refine ⟨D, tb.map (·.1), rfl, .of (by rw [upd_ne Da]; exact q), by rw [List.length_map]; omega, fun ys p hp hs hpn => ⟨p, rfl, s1.trans (Same.new hpn), ?_⟩⟩
        rw [upd_same, sortS_eq hp hs]
        rfl
    · rintro σ H1 ⟨nl, rfl, s1, hn⟩
      have ny : ∀ y ∈ nmL tb, y.length ≤ 8 := nm_fit (fun e m => (tl4 e m).1) (by omega)
      have nlen : (nmL tb).length = tb.length := by
        unfold nmL
        rw [(sortS_perm _).length_eq, List.length_map]
      have nld : nl ≠ d := ne_of hn (s1 _ _ d1) (by intro c; cases c)
      have Dk1 := Dk.same s1
      refine ⟨fun σ H' => σ = [some (.ref d), some (.ref a), some (.ref nl), none] ∧ But d H1 H' ∧ DeskAt K g H' d (tabs ++ [tb]), ?_, ?_⟩
      · refine ⟨_, rfl, d, g, o, tabs, tb, .names, by rw [show lineT (deedC .names :: argsC .names) = ("names" : Str) from line1 _], Dk1, RO.ts, trivial, s1 _ _ hg, gd, fun H2 p b D2 hp => ?_⟩
        have hn2 := b _ _ nld hn
        refine ⟨_, rfl, nl, nmL tb, rfl, .inl (.inl hn2), by omega, fun y hy => Nat.le_trans (ny y hy) (by decide), l2, fun q hq => cmp_no (a := .told (nmT tb)) (Same.new hq _ _ hp) ?_ ?_ ⟨_, rfl, ?_⟩⟩
        · rw [upd_same]
          unfold nmT
          cases nmL tb with
          | nil => rfl
          | cons _ _ => rfl
        · show SOk (nmT tb)
          unfold nmT
          cases hnm : nmL tb with
          | nil => exact sok_of _
          | cons y r =>
            refine sok_join (sok_of _) fun z hz => ?_
            have : z ∈ nmL tb := by rw [hnm]; exact hz
            have := (sortS_perm (tb.map (·.1))).mem_iff.mp this
            obtain ⟨e, m, rfl⟩ := List.mem_map.mp this
            exact sok_name (tl4 e m).1
        · refine iteF (A := True) ?_
          exact ⟨rfl, fun y u n h => Same.new hq y u (b y u n h), D2.same (Same.new hq)⟩
      · rintro σ H2 ⟨rfl, b2, D2⟩
        refine ⟨_, rfl, nl, rfl, ⟨_, .of (b2 _ _ nld hn)⟩, for_list (K := K) (a := nl) (xs := (nmL tb).map V.str) (fun i σ H' => ∃ v, σ = [some (.ref d), some (.ref a), some (.ref nl), v] ∧ But d H1 H' ∧ DeskAt K g H' d (tabs ++ [tb])) ⟨none, rfl, b2, D2⟩ (fun i σ H' _ ⟨_, _, b, _⟩ => .of (b _ _ nld hn)) ?_ ?_⟩
        · rintro i x σ H3 hi ⟨v, rfl, b3, D3⟩
          obtain ⟨n, hni, rfl⟩ := get_map hi
          have mn := (sortS_perm (tb.map (·.1))).mem_iff.mp (List.mem_of_getElem? hni)
          obtain ⟨e0, m0, rfl⟩ := List.mem_map.mp mn
          obtain ⟨f1, f2⟩ | ⟨rows, vv, f1, f2, ra0, rfl, Rr⟩ := tab_val ra e0.1
          · exfalso
            unfold lkT at f1
            rw [Option.map_eq_none_iff, List.find?_eq_none] at f1
            exact f1 e0 m0 (decide_eq_true rfl)
          have ok := tl4 _ (lkT_mem f1)
          have okn : NameOk e0.1 := ok.1
          have okr : Ld rows ∧ rows.length ≤ 9 := ok.2
          have pe3 := pe_desk (g := g) (s1 _ _ d1) b3
          have ln : ("show " : Str).length = 5 := by decide +kernel
          refine ⟨_, rfl, _, rfl, _, _, rfl, rfl, szl _ (by have := okn.2.1; omega), d, g, o, tabs, tb, .sho e0.1, ?_, D3, RO.ts, okn, b3 _ _ gd (s1 _ _ hg), gd, fun H4 p b4 D4 hp => ?_⟩
          · rw [show lineT (deedC (.sho e0.1) :: argsC (.sho e0.1)) = ("show" : Str) ++ " " ++ e0.1 from line2 _ _, sp_show]
          · have eT : tellM tabs tb (.sho e0.1) = (.told (shT rows), tabs ++ [tb]) := by
              simp only [tellM, onT, f1]
            rw [eT] at D4 hp
            have b14 := b3.trans b4
            have pe4 := pe_desk (g := g) (s1 _ _ d1) b14
            refine ⟨_, rfl, _, rfl, a, _, rfl, (show DGet H4 a (kV (.inr e0.1)) (some (.ref ra0)) by rw [← f2]; exact DGet.k (b14 _ _ ad (s1 _ _ ha))), ra0, g, o, rows, 0, 0, .sho, rfl, TT2.pe pe4.1 (Rr.same s1), okr.1, by omega, (fun c => by rcases c with c | c <;> cases c), b14 _ _ gd (s1 _ _ hg), fun H5 e5 => ?_⟩
            refine ⟨l2, fun q hq => cmp_no (a := .told (shT rows)) (Same.new hq _ _ (e5 _ _ hp)) upd_same (sok_shT rows) ⟨_, rfl, ?_⟩⟩
            refine iteF (A := True) ?_
            exact ⟨_, rfl, fun y u n h => Same.new hq y u (e5 y u (b14 y u n h)), (D4.same e5).same (Same.new hq)⟩
        · rintro σ H3 ⟨v, rfl, b3, D3⟩
          exact k H3 (fun y u n h => b3 y u n (s1 y u h)) D3
end
end Lk
set_option Elab.async false
set_option linter.all false
set_option maxRecDepth 100000
set_option maxHeartbeats 4000000
namespace Lk
open PySem PySem.Spec PyProof.Rows L2
open He (ga ma)
section
variable {P : Program} {w : World} {K : PySem.W.Frag} {mg : Str → Option Value} {base : Heap}
theorem dec_lt (a b : Nat) : decide ((a : Int) < (b : Int)) = decide (a < b) := decide_eq_decide.mpr (by omega)
/-- one more table behind the last -/
theorem RsOk.snoc {tabs : List Tab} {tb : Tab} (h : RsOk tabs) (hl : tabs.length ≤ 51) (h1 : tb.length ≤ tabs.length) (h2 : ∀ e ∈ tb, NameOk e.1 ∧ Ld e.2 ∧ e.2.length ≤ 9) : RsOk (tabs ++ [tb]) := by
  refine ⟨by rw [List.length_append]; show tabs.length + 1 ≤ 52; omega, fun i t hi => ?_, fun t m e me => ?_⟩
  · by_cases c : i < tabs.length
    · rw [List.getElem?_append_left c] at hi
      exact h.each i t hi
    · have hi1 := (List.getElem?_eq_some_iff.mp hi).1
      rw [List.length_append] at hi1
      have hi1 : i < tabs.length + 1 := hi1
      obtain rfl : i = tabs.length := by omega
      rw [List.getElem?_append_right (Nat.le_refl _), Nat.sub_self] at hi
      cases hi
      exact h1
  · rcases List.mem_append.mp m with m | m
    · exact h.ok t m e me
    · rw [List.mem_singleton] at m
      subst m
      exact h2 e me
theorem RsOk.last {tabs : List Tab} {tb : Tab} (h : RsOk (tabs ++ [tb])) : tb.length ≤ tabs.length ∧ ∀ e ∈ tb, NameOk e.1 ∧ Ld e.2 ∧ e.2.length ≤ 9 := ⟨h.each tabs.length tb (by rw [List.getElem?_append_right (Nat.le_refl _), Nat.sub_self]; rfl), h.ok tb (by simp)⟩
theorem Ld.snoc {rows : List (List Nat)} {ns : List Nat} (h : Ld rows) (hp : parB rows.length ns = true) : Ld (rows ++ [ns]) := fun i r hi => by
  by_cases c : i < rows.length
  · rw [List.getElem?_append_left c] at hi
    exact h i r hi
  · have hi1 := (List.getElem?_eq_some_iff.mp hi).1
    rw [List.length_append] at hi1
    have hi1 : i < rows.length + 1 := hi1
    obtain rfl : i = rows.length := by omega
    rw [List.getElem?_append_right (Nat.le_refl _), Nat.sub_self] at hi
    cases hi
    exact hp
theorem parB_bad {n : Nat} {ns : List Nat} : parB n (ns ++ [n]) = false := by
  cases c : parB n (ns ++ [n]) with
  | false => rfl
  | true => exact absurd (parB_lt c n (by simp)) (Nat.lt_irrefl _)
theorem ptT_ok {tb : Tab} {n : Str} {r : List (List Nat)} (h : ∀ e ∈ tb, NameOk e.1 ∧ Ld e.2 ∧ e.2.length ≤ 9) (hn : NameOk n) (hl : Ld r) (h9 : r.length ≤ 9) : ∀ e ∈ ptT tb n r, NameOk e.1 ∧ Ld e.2 ∧ e.2.length ≤ 9 := fun e m => by
  rcases ptT_mem m with m | rfl
  · exact h e m
  · exact ⟨hn, hl, h9⟩
theorem but2_but {f g d : Addr} {H H1 H2 : Hp} {M : List Addr} (a : But2 f g H H1) (b : But d H1 H2) (hf : f ∈ M) (hg : g ∈ M) (hd : d ∈ M) : Kp M H H2 := fun x o n h => b x o (fun c => n (c ▸ hd)) (a x o (fun c => n (c ▸ hf)) (fun c => n (c ▸ hg)) h)
theorem kp_but2 {f g : Addr} {H H1 : Hp} {M : List Addr} (a : But2 f g H H1) (hf : f ∈ M) (hg : g ∈ M) : Kp M H H1 := fun x o n h => a x o (fun c => n (c ▸ hf)) (fun c => n (c ▸ hg)) h
/-- what a turn leaves -/
def Left (K : PySem.W.Frag) (f g d t : Addr) (H : Hp) (n : Nat) (H' : Hp) : Prop := ∃ tabs', LawAt K H' f g d t tabs' ∧ RsOk tabs' ∧ tabs' ≠ [] ∧ tabs'.length ≤ n + 1 ∧ Kp [f, g, d, t] H H'
def spLLoad (K : PySem.W.Frag) : Sp := fun vs H Q _ => ∃ (f g d t : Addr) (n : Str) (shape : Nat) (tabs : List Tab) (tb : Tab) (rows : List (List Nat)), vs = [.ref f, .ref d, .str n, .ref t, vi shape] ∧ LawAt K H f g d t (tabs ++ [tb]) ∧ RsOk (tabs ++ [tb]) ∧ tabs.length ≤ 50 ∧ shape < 4 ∧ lkT tb n = some rows ∧
  ∀ H', Left K f g d t H (tabs.length + 1) H' → Q (.bl true) H'
theorem RsOk.tsn {tabs : List Tab} {tb : Tab} (h : RsOk tabs) (hl : tabs.length ≤ 51) (h1 : tb.length ≤ tabs.length) (h2 : ∀ e ∈ tb, NameOk e.1 ∧ WfR e.2) : TsOk (tabs ++ [tb]) := by
  refine ⟨by rw [List.length_append]; show tabs.length + 1 ≤ 55; omega, fun i t hi => ?_, fun t m e me => ?_⟩
  · by_cases c : i < tabs.length
    · rw [List.getElem?_append_left c] at hi
      exact h.each i t hi
    · have hi1 := (List.getElem?_eq_some_iff.mp hi).1
      rw [List.length_append] at hi1
      have hi1 : i < tabs.length + 1 := hi1
      obtain rfl : i = tabs.length := by omega
      rw [List.getElem?_append_right (Nat.le_refl _), Nat.sub_self] at hi
      cases hi
      exact h1
  · rcases List.mem_append.mp m with m | m
    · exact h.ts.ok t m e me
    · rw [List.mem_singleton] at m
      subst m
      exact h2 e me
theorem undo_ne {tabs : List Tab} {t : Tab} (h : tabs ≠ []) : tellM tabs t .undo = (.told "ok", tabs) := by
  cases tabs with
  | nil => exact absurd rfl h
  | cons a r => rfl
theorem ok_law_load (PO : ProgOk P) (T : Tx K mg) (F : Fx K) (X : Ex w K) : DefOk P w K mg base (L2.CX P w) 11 (ga K "_law_load") ["_law_flow_here", "_law_desk", "_law_name_here", "_law_tables", "_law_shape"] (spLLoad K) := by
  have DT := ok_law_tell (base := base) PO T F X
  have DP := ok_law_parents (P := P) (w := w) (base := base) T F
  have DD := ok_law_draw (P := P) (w := w) (base := base) T F
  have DJ := ok_law_joined (P := P) (w := w) (base := base) T F
  have nd := sc_law_load.nd
  refine def_ok F.f_law_load bd_law_load sc_law_load (fun vs H Q E h => ?_) (fun cdv A outer s0 H vs Q E hr h => ?_)
  · obtain ⟨f, g, d, t, n, shape, tabs, tb, rows, rfl, _⟩ := h
    rfl
  · obtain ⟨f, g, d, t, n, shape, tabs, tb, rows, rfl, L, RO, hl, hsh, hlk, k⟩ := h
    refine ⟨_, pss_cut (ps_set (i := 5) nd rfl (Or.inl rfl) (pe_dget (hu_of hr) (pe_ix ix_list (pv 3) (pe_un un_neg pe_int) (fun _ _ => rfl)) (pv 2) (fun _ _ => rfl)))
      (pss_cut (ps_set (i := 6) nd rfl (Or.inl rfl) (pe_cal (DP.mono (by decide : 2 ≤ 10)) hr (by rfl) T.g_law_parents pass0 (pa_cons (pv 0) (pa_cons (pe_callB call_len (by rfl) T.b_len (by decide +kernel) (pa_cons (pv 5) pa_nil)) (pa_cons (pv 4) pa_nil)))))
      (pss_cut (ps_set (i := 7) nd rfl (Or.inl rfl) (pe_cmpR op_eq (pe_cal (DD.mono (by decide : 1 ≤ 10)) hr (by rfl) T.g_law_draw pass0 (pa_cons (pv 0) (pa_cons pe_int pa_nil))) pe_int (nomark _)))
      (pss_cut (ps_if (pt_val (pv 7)) (pss_one (ps_set (i := 6) nd rfl (Or.inl rfl) (pe_op op_catA (pv 6) (pe_tup (pa_cons (pe_callB call_len (by rfl) T.b_len (by decide +kernel) (pa_cons (pv 5) pa_nil)) pa_nil))))) pss_nil)
      (pss_cut (ps_set (i := 8) nd rfl (Or.inl rfl) (pe_cal (E := E0) DT hr (by rfl) T.g_law_tell passL (pa_cons (pv 1) (pa_cons (pe_op op_add_str (pe_op op_add_str (pe_op op_add_str pe_str (pv 2)) pe_str) (pe_cal (DJ.mono (by decide : 1 ≤ 10)) hr (by rfl) T.g_law_joined pass0 (pa_cons (pv 6) (pa_cons pe_str pa_nil)))) pa_nil))))
      (pss_cons (ps_if (pt_val (pv 7)) (pss_one (ps_ret (pe_cmpR (op_eqD hr.units) (pv 8) (pe_tup (pa_cons pe_str pa_nil)) (nomark _)))) pss_nil)
      (pss_cons (ps_if (pt_cmpR op_lt (pe_callB call_len (by rfl) T.b_len (by decide +kernel) (pa_cons (pv 5) pa_nil)) pe_int (nomark _))
        (pss_cut (ps_set (i := 9) nd rfl (Or.inl rfl) (pe_callTy call_dictD (by rfl) T.b_dict (by decide +kernel) (pa_cons (pe_ix ix_list (pv 3) (pe_un un_neg pe_int) (fun _ _ => rfl)) pa_nil)))
        (pss_cut (ps_dput (hu_of hr) (pv 9) (pv 2) (pe_op op_catA (pv 5) (pe_tup (pa_cons (pv 6) pa_nil))) (by rfl))
        (pss_cons (ps_expr (pe_bm PySem.F.plainAttrs_list PySem.F.slot_list_append PySem.F.type_list_append mt_append (pv 3) (pa_cons (pv 9) pa_nil)))
        (pss_one (ps_ret (pe_cmpR (op_eqD hr.units) (pv 8) (pe_tup (pa_cons pe_str (pa_cons (pe_callTy call_str_int (by rfl) T.b_str (by decide +kernel) (pa_cons (pe_callB call_len (by rfl) T.b_len (by decide +kernel) (pa_cons (pv 5) pa_nil)) pa_nil)) pa_nil))) (nomark _))))))) pss_nil)
      (pss_one (ps_ret (pe_and (pe_cmpR (op_eqD hr.units) (pv 8) (pe_tup (pa_cons pe_str (pa_cons pe_str pa_nil))) (nomark _)) (pe_one (pe_cmpR (op_eqD hr.units) (pe_cal (E := E0) DT hr (by rfl) T.g_law_tell passL (pa_cons (pv 1) (pa_cons pe_str pa_nil))) (pe_tup (pa_cons pe_str (pa_cons pe_str pa_nil))) (nomark _)))))))))))), ?_⟩
    obtain ⟨n1, n2, n3, n4, n5, n6⟩ := L.ne (by simp)
    obtain ⟨rl1, rl2⟩ := RO.last
    obtain ⟨okn, okl, ok9⟩ : NameOk n ∧ Ld rows ∧ rows.length ≤ 9 := rl2 _ (lkT_mem hlk)
    obtain ⟨bs, t1, t2⟩ := id L.tb
    obtain ⟨bs', b', rfl, t3, kvs, t4, t5⟩ := t2.last
    obtain ⟨ns0, fx, fy, fz, f1, f2⟩ := id L.fl
    obtain ⟨e1, _⟩ | ⟨rows', v, e1, e2, ra, rfl, Rr⟩ := tab_val t5 n
    · rw [hlk] at e1
      cases e1
    obtain rfl : rows = rows' := by
      rw [hlk] at e1
      cases e1
      rfl
    obtain ⟨as, ha, rr⟩ := id Rr
    have elen : V.int (((as.map V.ref).length : Nat) : Int) = vi rows.length := by rw [List.length_map, rr.1]
    refine ⟨fun σ H' => σ = [some (.ref f), some (.ref d), some (.str n), some (.ref t), some (vi shape), some (.ref ra), none, none, none, none] ∧ H = H', ⟨_, rfl, _, rfl, t, _, _, _, rfl, rfl, .of t1, last_ref bs' b', _, rfl, b', _, rfl, (show DGet H b' (kV (.inr n)) (some (.ref ra)) by rw [← e2]; exact DGet.k t4), rfl, rfl⟩, ?_⟩
    rintro σ _ ⟨rfl, rfl⟩
    refine ⟨fun σ H' => ∃ pa ns, σ = [some (.ref f), some (.ref d), some (.str n), some (.ref t), some (vi shape), some (.ref ra), some (.ref pa), none, none, none] ∧ FlowAt H' f g ∧ But2 f g H H' ∧ TN H' pa ns ∧ parB rows.length ns = true, ⟨_, rfl, _, rfl, _, _, rfl, .inr ⟨_, .of ha, rfl⟩, _, rfl, f, g, rows.length, shape, congrArg (fun z => [V.ref f, z, vi shape]) elen, L.fl, by omega, hsh, fun pa ns H1 F1 b1 tn pb _ => ⟨pa, ns, rfl, F1, b1, tn, pb⟩⟩, ?_⟩
    rintro σ H1 ⟨pa, ns, rfl, F1, b1, tn1, pb1⟩
    refine ⟨fun σ H' => ∃ bad : Bool, σ = [some (.ref f), some (.ref d), some (.str n), some (.ref t), some (vi shape), some (.ref ra), some (.ref pa), some (.bl bad), none, none] ∧ FlowAt H' f g ∧ But2 f g H H' ∧ TN H' pa ns, ⟨_, rfl, f, g, 8, rfl, F1, by decide, by decide, fun m H2 hm F2 b2 => ⟨rfl, _, rfl, F2, b1.trans b2, TN.pe (pe_flow F1 b2).1 tn1⟩⟩, ?_⟩
    rintro σ H2 ⟨bad, rfl, F2, b2, tn2⟩
    have ra2 : ∀ H', FlowAt H' f g → But2 f g H H' → H' ra = some (.tup (as.map V.ref)) := fun H' _ b => (pe_flow L.fl b).1 _ _ ha trivial
    refine ⟨fun σ H' => ∃ pa ns, σ = [some (.ref f), some (.ref d), some (.str n), some (.ref t), some (vi shape), some (.ref ra), some (.ref pa), some (.bl bad), none, none] ∧ FlowAt H' f g ∧ But2 f g H H' ∧ TN H' pa ns ∧ parB rows.length ns = !bad ∧ KsOk ns, ?_, ?_⟩
    · have l6 := parB_len pb1
      have lt6 := parB_lt pb1
      refine ⟨_, rfl, bad, rfl, ?_⟩
      cases bad with
      | false =>
        refine iteF (A := True) ?_
        exact ⟨pa, ns, rfl, F2, b2, tn2, pb1, by omega, fun y hy => by have := lt6 y hy; omega⟩
      | true =>
        refine iteT (B := True) ?_
        have ks : KsOk (ns ++ [rows.length]) := ⟨by rw [List.length_append]; show ns.length + 1 ≤ 20; omega, fun y hy => by
          rcases List.mem_append.mp hy with hy | hy
          · have := lt6 y hy
            omega
          · rw [List.mem_singleton] at hy
            omega⟩
        refine ⟨_, rfl, _, rfl, _, _, rfl, .inr ⟨_, .of (ra2 _ F2 b2), rfl⟩, l1, fun c hc => ?_⟩
        rw [elen]
        have sc : Same H2 (upd H2 c (.tup [vi rows.length])) := Same.new hc
        refine ⟨pa, c, _, [vi rows.length], rfl, rfl, .of (sc _ _ tn2), .of upd_same, ?_, fun h0 => ?_, (fun h0 h00 => nomatch h00), fun h0 h00 q hq => ?_⟩
        · rw [List.length_map]
          exact le_size (by show ns.length + 1 ≤ 1000; omega)
        · have e0 : ns = [] := by simpa using h0
          refine ⟨c, ns ++ [rows.length], rfl, F2.keep sc, b2.trans (But2.of sc), ?_, parB_bad, ks⟩
          rw [e0]
          exact upd_same
        · refine ⟨q, ns ++ [rows.length], rfl, (F2.keep sc).keep (Same.new hq), (b2.trans (But2.of sc)).trans (But2.of (Same.new hq)), ?_, parB_bad, ks⟩
          show upd _ _ _ _ = _
          rw [upd_same, List.map_append]
          rfl
    clear tn1 pb1 tn2 F1 b1 F2 b2
    rintro σ H2 ⟨pa, ns, rfl, F2, b2, tn2, pb, ks⟩
    have LL := L.drawn (by simp) F2 b2
    obtain ⟨ns2, _, _, _, _, g2⟩ := id F2
    refine ⟨fun σ H' => ∃ p, σ = [some (.ref f), some (.ref d), some (.str n), some (.ref t), some (vi shape), some (.ref ra), some (.ref pa), some (.bl bad), some (.ref p), none] ∧ But d H2 H' ∧ DeskAt K g H' d (tellM tabs tb (.load n ns)).2 ∧ H' p = some (.tup (ansV (tellM tabs tb (.load n ns)).1)), ?_, ?_⟩
    · have z1 : ("load " : Str).length = 5 := by decide +kernel
      have z2 : (" " : Str).length = 1 := by decide +kernel
      have z3 := okn.2.1
      refine ⟨_, rfl, _, rfl, _, _, rfl, rfl, szl _ (by omega), _, _, rfl, rfl, szl _ (by rw [len_app]; omega), _, rfl, pa, ns, ",", rfl, tn2, by have := ks.1; omega, fun y hy => by have := ks.2 y hy; omega, by decide +kernel, fun H3 e3 => ⟨_, _, rfl, rfl, ?_, d, g, _, tabs, tb, .load n ns, ?_, LL.dk.same e3, RO.ts, ⟨okn, ks⟩, e3 _ _ g2, n4, fun H4 p b4 D4 hp => ⟨p, rfl, fun y u ny h => b4 y u ny (e3 y u h), D4, hp⟩⟩⟩
      · have := jM_len (ns := ns) (bt := ",") (fun y hy => by have := ks.2 y hy; omega) (by decide +kernel)
        have := ks.1
        exact szl _ (by rw [len_app, len_app]; omega)
      · rw [show lineT (deedC (.load n ns) :: argsC (.load n ns)) = ("load" : Str) ++ " " ++ n ++ " " ++ jM ns "," from line3 _ _ _, sp_load]
    rintro σ H3 ⟨p, rfl, b3, D3, hp⟩
    obtain ⟨F3, T3⟩ := LL.told (by simp) b3 D3
    obtain ⟨dx, tp, as0, d1, _, _⟩ := id LL.dk
    have pe3 := pe_desk (g := g) d1 b3
    have ra3 : H3 ra = some (.tup (as.map V.ref)) := pe3.1 _ _ (ra2 _ F2 b2) trivial
    have rr3 : AllAt (TN H3) as rows := rr.imp fun _ _ r => TN.pe pe3.1 (TN.pe (pe_flow L.fl b2).1 r)
    have tn3 : TN H3 pa ns := TN.pe pe3.1 tn2
    have kp3 : Kp [f, g, d, t] H H3 := but2_but b2 b3 (by simp) (by simp) (by simp)
    cases bad with
    | true =>
      have eT : tellM tabs tb (.load n ns) = (.bad, tabs ++ [tb]) := by simp only [tellM, onT, hlk, pb, Bool.not_true]
      rw [eT] at D3 hp
      refine ⟨_, rfl, true, rfl, ?_⟩
      refine iteT (B := True) ?_
      refine ⟨_, rfl, l1, fun q hq => cmp_ok (a := .bad) (Same.new hq _ _ hp) upd_same trivial ?_⟩
      exact k _ ⟨tabs ++ [tb], ⟨F3.keep (Same.new hq), D3.same (Same.new hq), T3.pe (g := g) (.of (Same.new hq)) (Same.new hq t)⟩, RO, by simp, by simp, kp3.trans (Kp.of (Same.new hq))⟩
    | false =>
      have pb : parB rows.length ns = true := pb
      have eT : tellM tabs tb (.load n ns) = (.told (nT rows.length), tabs ++ [tb] ++ [ptT tb n (rows ++ [ns])]) := by simp only [tellM, onT, hlk, pb]
      rw [eT] at D3 hp
      have e9 : decide ((((as.map V.ref).length : Nat) : Int) < 9) = decide (rows.length < 9) := by rw [List.length_map, rr.1]; exact dec_lt _ 9
      refine ⟨_, rfl, false, rfl, ?_⟩
      refine iteF (A := True) ?_
      refine ⟨_, rfl, _, _, rfl, .inr ⟨_, .of ra3, rfl⟩, _, _, rfl, rfl, _, rfl, ?_⟩
      rw [e9]
      have ptl : (ptT tb n (rows ++ [ns])).length ≤ (tabs ++ [tb]).length := by
        have := ptT_len tb n (rows ++ [ns])
        rw [List.length_append]
        show _ ≤ tabs.length + 1
        omega
      by_cases c : rows.length < 9
      · rw [decide_eq_true c]
        refine iteT (B := True) ?_
        obtain ⟨cs, q1, q2⟩ := id T3
        obtain ⟨cs', c', rfl, q3, kvs3, q4, q5⟩ := q2.last
        refine ⟨fun σ H' => ∃ u, σ = [some (.ref f), some (.ref d), some (.str n), some (.ref t), some (vi shape), some (.ref ra), some (.ref pa), some (.bl false), some (.ref p), some (.ref u)] ∧ H3 u = none ∧ H' = upd H3 u (.dK kvs3), ⟨_, rfl, _, rfl, t, _, _, _, rfl, rfl, .of q1, last_ref cs' c', c', kvs3, rfl, .of q4, fun u hu => ⟨u, rfl, hu, rfl⟩⟩, ?_⟩
        rintro σ _ ⟨u, rfl, hu, rfl⟩
        have su : Same H3 (upd H3 u (.dK kvs3)) := Same.new hu
        have hkl : kvs3.length ≤ 1000 := by rw [q5.1]; omega
        refine ⟨fun σ H' => σ = [some (.ref f), some (.ref d), some (.str n), some (.ref t), some (vi shape), some (.ref ra), some (.ref pa), some (.bl false), some (.ref p), some (.ref u)] ∧ ∃ q, Same H3 H' ∧ H' u = some (.dK (putK kvs3 (.inr n) (.ref q))) ∧ TT2 H' q (rows ++ [ns]), ?_, ?_⟩
        · refine ⟨_, rfl, _, rfl, l1, fun c hc => ?_⟩
          have sc : Same (upd H3 u (.dK kvs3)) (upd (upd H3 u (.dK kvs3)) c (.tup [.ref pa])) := Same.new hc
          refine ⟨ra, c, _, [.ref pa], rfl, rfl, .of (sc _ _ (su _ _ ra3)), .of upd_same, ?_, fun h0 => ?_, (fun h0 h00 => nomatch h00), fun h0 h00 q hq => ?_⟩
          · rw [List.length_map, rr.1]
            exact le_size (by show rows.length + 1 ≤ 1000; omega)
          · have e0 : as = [] := by simpa using h0
            have e1 : rows = [] := by
              have := rr.1
              rw [e0] at this
              exact List.length_eq_zero_iff.mp this.symm
            have hd := sc _ _ (upd_same (H := H3) (a := u) (o := .dK kvs3))
            refine ⟨_, rfl, _, rfl, u, _, rfl, DPut.k (k := .inr n) (v := .ref c) hd (small1000 hkl), rfl, c, same_upd hu (su.trans sc), upd_same, TT2.pe (g := g) (pz_dict hd) ⟨[pa], upd_same, ?_⟩⟩
            rw [e1]
            exact AllAt.one (tn3.same (su.trans sc))
          · have sq : Same (upd H3 u (.dK kvs3)) (upd (upd (upd H3 u (.dK kvs3)) c (.tup [.ref pa])) q (.tup (as.map V.ref ++ [.ref pa]))) := sc.trans (Same.new hq)
            have hd := sq _ _ (upd_same (H := H3) (a := u) (o := .dK kvs3))
            refine ⟨_, rfl, _, rfl, u, _, rfl, DPut.k (k := .inr n) (v := .ref q) hd (small1000 hkl), rfl, q, same_upd hu (su.trans sq), upd_same, TT2.pe (g := g) (pz_dict hd) ⟨as ++ [pa], by rw [upd_same, List.map_append]; rfl, AllAt.snoc (rr3.imp fun _ _ r => r.same (su.trans sq)) (tn3.same (su.trans sq))⟩⟩
        rintro σ H4 ⟨rfl, q, s4, hd4, tt4⟩
        have ut : u ≠ t := (ne_of_none q1 hu).symm
        refine ⟨_, rfl, .inl ⟨rfl, _, .of (s4 _ _ q1)⟩, _, rfl, t, _, .ref u, rfl, rfl, s4 _ _ q1, ?_, ?_⟩
        · rw [List.length_map, q2.1, List.length_append]
          exact small1000 (by show tabs.length + 1 ≤ 1000; omega)
        have T4 : TblAt H4 t (tabs ++ [tb]) := T3.pe (g := g) (.of s4) (s4 t)
        have bt : But t H4 (upd H4 t (.lst ((cs' ++ [c']).map V.ref ++ [.ref u]))) := But.upd
        have pe5 := pe_tbl (g := g) T4 (by simp) bt
        have D5 := DeskAt.pe pe5 (fun o h => bt d o n6 h) (D3.same s4)
        have F5 := But.flow bt n3 n5 (F3.keep s4)
        have T5 : TblAt (upd H4 t (.lst ((cs' ++ [c']).map V.ref ++ [.ref u]))) t (tabs ++ [tb] ++ [ptT tb n (rows ++ [ns])]) :=
          ⟨cs' ++ [c'] ++ [u], by rw [upd_same, List.map_append (l₁ := cs' ++ [c'])]; rfl, AllAt.snoc (q2.imp fun _ _ h => (TabL.pe (g := g) (.of s4) h).pe pe5) ⟨_, bt u _ ut hd4, tab_put (q5.imp fun kv en ⟨x, r, b, c⟩ => ⟨x, r, b, TT2.pe pe5.1 (TT2.same s4 c)⟩) n ⟨q, rfl, TT2.pe pe5.1 tt4⟩⟩⟩
        have hp5 := pe5.1 _ _ (s4 _ _ hp) trivial
        refine ⟨_, rfl, _, rfl, _, _, rfl, .inr ⟨_, .of (pe5.1 _ _ (s4 _ _ ra3) trivial), rfl⟩, _, rfl, by rw [List.length_map, rr.1]; exact log_small (by omega), l2, fun z hz => cmp_ok (a := .told (nT rows.length)) (Same.new hz _ _ hp5) (by rw [upd_same, List.length_map, rr.1]; rfl) (sok_of _) ?_⟩
        refine k _ ⟨_, ⟨F5.keep (Same.new hz), D5.same (Same.new hz), T5.pe (g := g) (.of (Same.new hz)) (Same.new hz t)⟩, RO.snoc ?_ ptl (ptT_ok rl2 okn (okl.snoc pb) ?_), by simp, by simp, ?_⟩
        · rw [List.length_append]
          show tabs.length + 1 ≤ 51
          omega
        · rw [List.length_append]
          show rows.length + 1 ≤ 9
          omega
        · exact ((kp3.trans (Kp.of s4)).trans (kp_but (by simp) bt)).trans (Kp.of (Same.new hz))
      · rw [decide_eq_false c]
        refine iteF (A := True) ?_
        obtain e10 : rows.length = 9 := by omega
        have e11 : nT rows.length = ("9" : Str) := by rw [e10]; decide +kernel
        rw [e11] at hp
        refine ⟨_, rfl, l2, fun q hq => cmp_ok (a := .told "9") (Same.new hq _ _ hp) upd_same (sok_of _) ⟨true, rfl, ?_⟩⟩
        have sq : Same H3 (upd H3 q (.tup [.str "told", .str "9"])) := Same.new hq
        refine iteT (B := True) ?_
        obtain ⟨ns3, _, _, _, _, g3⟩ := id F3
        have D4 := D3.same sq
        have F4 := F3.keep sq
        have T4 : TblAt _ t (tabs ++ [tb]) := T3.pe (g := g) (.of sq) (sq t)
        obtain ⟨dx4, tp4, as4, d4, _, _⟩ := id D4
        refine ⟨_, rfl, d, g, _, tabs ++ [tb], ptT tb n (rows ++ [ns]), .undo, by rw [show lineT (deedC .undo :: argsC .undo) = ("undo" : Str) from line1 _], D4, RO.tsn ?_ ptl ?_, trivial, sq _ _ g3, n4, fun H5 p5 b5 D5 hp5 => ⟨l2, fun z hz => ?_⟩⟩
        · rw [List.length_append]
          show tabs.length + 1 ≤ 51
          omega
        · intro e m
          rcases ptT_mem m with m | rfl
          · have := rl2 e m
            exact ⟨this.1, this.2.1.wfr (by omega)⟩
          · exact ⟨okn, (okl.snoc pb).wfr (by rw [List.length_append]; show rows.length + 1 ≤ 10; omega)⟩
        · rw [undo_ne (by simp)] at D5 hp5
          refine cmp_ok (a := .told "ok") (Same.new hz _ _ hp5) upd_same (sok_of _) ?_
          have F5 := b5.flow n2 n4 F4
          have T5 : TblAt H5 t (tabs ++ [tb]) := T4.pe (pe_desk (g := g) d4 b5) (fun o h => b5 t o n6.symm h)
          exact k _ ⟨_, ⟨F5.keep (Same.new hz), D5.same (Same.new hz), T5.pe (g := g) (.of (Same.new hz)) (Same.new hz t)⟩, RO, by simp, by simp, ((kp3.trans (Kp.of sq)).trans (kp_but (by simp) b5)).trans (Kp.of (Same.new hz))⟩
end
end Lk
set_option Elab.async false
set_option linter.all false
set_option maxRecDepth 100000
set_option maxHeartbeats 4000000
namespace Lk
open PySem PySem.Spec PyProof.Rows L2
open He (ga ma)
section
variable {P : Program} {w : World} {K : PySem.W.Frag} {mg : Str → Option Value} {base : Heap}
def cmW (n : Str) (x p : Nat) : Wd → Cmd
  | .sho => .sho n | .ask => .ask n x p | .given => .given n x | .groups => .groups n | .slots => .slots n | .width => .width n
def lnA (n : Str) (x p : Nat) (wd : Wd) : Str := match wd with
  | .ask => wdS .ask ++ " " ++ n ++ " " ++ nT x ++ " " ++ nT p
  | wd => wdS wd ++ " " ++ n
def lnW (n : Str) (x p : Nat) (wd : Wd) : Str := match wd with
  | .ask => wdS .ask ++ " " ++ n ++ " " ++ nT x ++ " " ++ nT p
  | .given => wdS .given ++ " " ++ n ++ " " ++ nT x
  | wd => wdS wd ++ " " ++ n
theorem lnW_eq (n : Str) (x p : Nat) (wd : Wd) : lineT (deedC (cmW n x p wd) :: argsC (cmW n x p wd)) = lnW n x p wd := by
  cases wd
  · exact line2 _ _
  · exact line4 _ _ _ _
  · exact line3 _ _ _
  · exact line2 _ _
  · exact line2 _ _
  · exact line2 _ _
def kindB (x p m : Nat) : Wd → Bool
  | .ask => decide (x = m ∨ p = m)
  | .given => decide (x = m)
  | _ => false
theorem tellW {tabs : List Tab} {tb : Tab} {n : Str} {rows : List (List Nat)} {x p : Nat} (wd : Wd) (h : lkT tb n = some rows) (hx : x ≤ rows.length) (hp : p ≤ rows.length) (hl : Ld rows) :
    tellM tabs tb (cmW n x p wd) = (match kindB x p rows.length wd with | true => Ans.kind | false => Ans.told (resM rows x p wd), tabs ++ [tb]) := by
  cases wd with
  | sho => simp only [cmW, tellM, onT, h, kindB, resM]
  | groups => simp only [cmW, tellM, onT, h, kindB, resM]
  | slots => simp only [cmW, tellM, onT, h, kindB, resM]
  | width => simp only [cmW, tellM, onT, h, kindB, resM]
  | given =>
    simp only [cmW, tellM, onT, h, kindB, resM]
    by_cases c : x = rows.length
    · rw [decide_eq_false (by omega), decide_eq_true c]
    · rw [decide_eq_true (by omega), decide_eq_false c]
  | ask =>
    simp only [cmW, tellM, onT, h, kindB, resM]
    by_cases c : x = rows.length ∨ p = rows.length
    · rw [decide_eq_false (by omega), decide_eq_true c]
    · have hx1 : x < rows.length := by omega
      have hp1 : p < rows.length := by omega
      rw [decide_eq_true ⟨hx1, hp1⟩, decide_eq_false c, ask_ok hl.wf hx1 hp1]
def wordsL : List Wd := [.ask, .given, .sho, .width, .slots, .groups, .ask, .ask]
theorem wdS_len (wd : Wd) : (wdS wd).length ≤ 6 := by cases wd <;> decide +kernel
theorem wd_ask : ∀ wd : Wd, decide (V.str (wdS wd) = V.str "ask") = match wd with | .ask => true | _ => false := by
  intro wd
  cases wd <;> decide +kernel
theorem wd_given : ∀ wd : Wd, decide (V.str (wdS wd) = V.str "given") = match wd with | .given => true | _ => false := by
  intro wd
  cases wd <;> decide +kernel
def spLAsk (K : PySem.W.Frag) : Sp := fun vs H Q _ => ∃ (f g d a : Addr) (n : Str) (tabs : List Tab) (tb : Tab) (rows : List (List Nat)), vs = [.ref f, .ref d, .str n, .ref a] ∧ FlowAt H f g ∧ DeskAt K g H d (tabs ++ [tb]) ∧ TT2 H a rows ∧ RsOk (tabs ++ [tb]) ∧ lkT tb n = some rows ∧ f ≠ d ∧ g ≠ d ∧
  ∀ H', FlowAt H' f g → DeskAt K g H' d (tabs ++ [tb]) → Kp [f, g, d] H H' → Q (.bl true) H'
theorem ok_law_asked (PO : ProgOk P) (T : Tx K mg) (F : Fx K) (X : Ex w K) : DefOk P w K mg base (L2.CX P w) 11 (ga K "_law_asked") ["_law_flow_here", "_law_desk", "_law_name_here", "_law_rows"] (spLAsk K) := by
  have DT := ok_law_tell (base := base) PO T F X
  have DD := ok_law_draw (P := P) (w := w) (base := base) T F
  have DA := ok_law_answer (base := base) PO T F X
  have nd := sc_law_asked.nd
  refine def_ok F.f_law_asked bd_law_asked sc_law_asked (fun vs H Q E h => ?_) (fun cdv A outer s0 H vs Q E hr h => ?_)
  · obtain ⟨f, g, d, a, n, tabs, tb, rows, rfl, _⟩ := h
    rfl
  · obtain ⟨f, g, d, a, n, tabs, tb, rows, rfl, FA, Dk, Rr, RO, hlk, fd, gd, k⟩ := h
    refine ⟨_, pss_cut (ps_set (i := 4) nd rfl (Or.inl rfl) (pe_ix ix_list (pe_lst (pa_cons pe_str (pa_cons pe_str (pa_cons pe_str (pa_cons pe_str (pa_cons pe_str (pa_cons pe_str (pa_cons pe_str (pa_cons pe_str pa_nil))))))))) (pe_cal (DD.mono (by decide : 1 ≤ 10)) hr (by rfl) T.g_law_draw pass0 (pa_cons (pv 0) (pa_cons pe_int pa_nil))) (fun _ _ => rfl)))
      (pss_cut (ps_set (i := 5) nd rfl (Or.inl rfl) (pe_cal (DD.mono (by decide : 1 ≤ 10)) hr (by rfl) T.g_law_draw pass0 (pa_cons (pv 0) (pa_cons (pe_op op_add (pe_callB call_len (by rfl) T.b_len (by decide +kernel) (pa_cons (pv 3) pa_nil)) pe_int) pa_nil))))
      (pss_cut (ps_set (i := 6) nd rfl (Or.inl rfl) (pe_cal (DD.mono (by decide : 1 ≤ 10)) hr (by rfl) T.g_law_draw pass0 (pa_cons (pv 0) (pa_cons (pe_op op_add (pe_callB call_len (by rfl) T.b_len (by decide +kernel) (pa_cons (pv 3) pa_nil)) pe_int) pa_nil))))
      (pss_cut (ps_set (i := 7) nd rfl (Or.inl rfl) (pe_op op_add_str (pe_op op_add_str (pv 4) pe_str) (pv 2)))
      (pss_cut (ps_if (pt_cmpR op_eq (pv 4) pe_str (nomark _)) (pss_one (ps_set (i := 7) nd rfl (Or.inl rfl) (pe_op op_add_str (pe_op op_add_str (pe_op op_add_str (pe_op op_add_str (pv 7) pe_str) (pe_callTy call_str_int (by rfl) T.b_str (by decide +kernel) (pa_cons (pv 5) pa_nil))) pe_str) (pe_callTy call_str_int (by rfl) T.b_str (by decide +kernel) (pa_cons (pv 6) pa_nil))))) pss_nil)
      (pss_cut (ps_if (pt_cmpR op_eq (pv 4) pe_str (nomark _)) (pss_one (ps_set (i := 7) nd rfl (Or.inl rfl) (pe_op op_add_str (pe_op op_add_str (pv 7) pe_str) (pe_callTy call_str_int (by rfl) T.b_str (by decide +kernel) (pa_cons (pv 5) pa_nil))))) pss_nil)
      (pss_cut (ps_if (PW.pt (pw_or (PW.pt (pw_and (pt_cmpR op_eq (pv 4) pe_str (nomark _)) (pw_and1 (pt_cmpR op_eq (pe_callB (call_max2 rfl) (by rfl) T.b_max (by decide +kernel) (pa_cons (pv 5) (pa_cons (pv 6) pa_nil))) (pe_callB call_len (by rfl) T.b_len (by decide +kernel) (pa_cons (pv 3) pa_nil)) (nomark _)))))
          (pw_or1 (PW.pt (pw_and (pt_cmpR op_eq (pv 4) pe_str (nomark _)) (pw_and1 (pt_cmpR op_eq (pv 5) (pe_callB call_len (by rfl) T.b_len (by decide +kernel) (pa_cons (pv 3) pa_nil)) (nomark _))))))))
        (pss_one (ps_ret (pe_cmpR (op_eqD hr.units) (pe_cal (E := E0) DT hr (by rfl) T.g_law_tell passL (pa_cons (pv 1) (pa_cons (pv 7) pa_nil))) (pe_tup (pa_cons pe_str pa_nil)) (nomark _)))) pss_nil)
      (pss_one (ps_ret (pe_cmpR (op_eqD hr.units) (pe_cal (E := E0) DT hr (by rfl) T.g_law_tell passL (pa_cons (pv 1) (pa_cons (pv 7) pa_nil))) (pe_tup (pa_cons pe_str (pa_cons (pe_cal (E := E0) (DA.mono (by decide : 9 ≤ 10)) hr (by rfl) T.g_law_answer passL (pa_cons (pv 4) (pa_cons (pv 3) (pa_cons (pv 5) (pa_cons (pv 6) pa_nil))))) pa_nil))) (nomark _)))))))))), ?_⟩
    obtain ⟨okn, okl, ok9⟩ : NameOk n ∧ Ld rows ∧ rows.length ≤ 9 := RO.last.2 _ (lkT_mem hlk)
    obtain ⟨as, ha, rr⟩ := id Rr
    have elen : V.int (((as.map V.ref).length : Nat) : Int) = vi rows.length := by rw [List.length_map, rr.1]
    have wl := fun wd => wdS_len wd
    have nl := okn.2.1
    have z1 : (" " : Str).length = 1 := by decide +kernel
    have a2 : ∀ H', But2 f g H H' → H' a = some (.tup (as.map V.ref)) := fun H' b => (pe_flow FA b).1 _ _ ha trivial
    refine ⟨fun σ H' => ∃ wd : Wd, σ = [some (.ref f), some (.ref d), some (.str n), some (.ref a), some (.str (wdS wd)), none, none, none] ∧ FlowAt H' f g ∧ But2 f g H H', ⟨(by decide : 8 ≤ sizeLine), fun l hl => ⟨_, rfl, f, g, 8, rfl, FA.keep (Same.new hl), by decide, by decide, fun m H1 hm F1 b1 => ⟨l, _, _, _, rfl, rfl, .of (b1 _ _ ?_ ?_ upd_same), atI_nat (j := m) (show ((wordsL.map wdS).map V.str)[m]? = some (.str (wdS (wordsL[m]'hm))) by rw [List.getElem?_map, List.getElem?_map, List.getElem?_eq_getElem hm]; rfl), _, rfl, F1, (But2.of (Same.new hl)).trans b1⟩⟩⟩, ?_⟩
    · obtain ⟨_, _, _, _, q, _⟩ := FA
      exact (ne_of_none q hl).symm
    · obtain ⟨_, _, _, _, _, q⟩ := FA
      exact (ne_of_none q hl).symm
    rintro σ H1 ⟨wd, rfl, F1, b1⟩
    refine ⟨fun σ H' => ∃ x : Nat, x ≤ rows.length ∧ σ = [some (.ref f), some (.ref d), some (.str n), some (.ref a), some (.str (wdS wd)), some (vi x), none, none] ∧ FlowAt H' f g ∧ But2 f g H H', ⟨_, rfl, _, rfl, _, _, rfl, .inr ⟨_, .of (a2 _ b1), rfl⟩, _, _, rfl, rfl, f, g, rows.length + 1, by rw [List.length_map, rr.1]; rfl, F1, by omega, by omega, fun m H2 hm F2 b2 => ⟨m, by omega, rfl, F2, b1.trans b2⟩⟩, ?_⟩
    clear F1 b1
    rintro σ H1 ⟨x, hx, rfl, F1, b1⟩
    refine ⟨fun σ H' => ∃ p : Nat, p ≤ rows.length ∧ σ = [some (.ref f), some (.ref d), some (.str n), some (.ref a), some (.str (wdS wd)), some (vi x), some (vi p), none] ∧ FlowAt H' f g ∧ But2 f g H H', ⟨_, rfl, _, rfl, _, _, rfl, .inr ⟨_, .of (a2 _ b1), rfl⟩, _, _, rfl, rfl, f, g, rows.length + 1, by rw [List.length_map, rr.1]; rfl, F1, by omega, by omega, fun m H2 hm F2 b2 => ⟨m, by omega, rfl, F2, b1.trans b2⟩⟩, ?_⟩
    clear F1 b1
    rintro σ H1 ⟨p, hp, rfl, F1, b1⟩
    have w6 := wl wd
    have x3 := nT_len (n := x) (by omega)
    have p3 := nT_len (n := p) (by omega)
    refine ⟨fun σ H' => σ = [some (.ref f), some (.ref d), some (.str n), some (.ref a), some (.str (wdS wd)), some (vi x), some (vi p), some (.str (wdS wd ++ " " ++ n))] ∧ H1 = H', ⟨_, rfl, _, _, rfl, rfl, szl _ (by omega), _, rfl, _, _, rfl, rfl, szl _ (by rw [len_app]; omega), rfl, rfl⟩, ?_⟩
    rintro σ _ ⟨rfl, rfl⟩
    refine ⟨fun σ H' => σ = [some (.ref f), some (.ref d), some (.str n), some (.ref a), some (.str (wdS wd)), some (vi x), some (vi p), some (.str (lnA n x p wd))] ∧ H1 = H', ⟨_, rfl, rfl, _, rfl, ?_⟩, ?_⟩
    · rw [wd_ask]
      cases wd with
      | ask =>
        refine iteT (B := True) ?_
        exact ⟨_, rfl, _, _, rfl, rfl, szl _ (by rw [len_app, len_app]; omega), _, rfl, _, rfl, log_small (by omega), _, _, rfl, rfl, szl _ (by rw [len_app, len_app, len_app]; show _ + (nT x).length ≤ _; omega), _, _, rfl, rfl, szl _ (by rw [len_app, len_app, len_app, len_app]; show _ + (nT x).length + _ ≤ _; omega), _, rfl, _, rfl, log_small (by omega), _, _, rfl, rfl, szl _ (by rw [len_app, len_app, len_app, len_app, len_app]; show _ + (nT x).length + _ + (nT p).length ≤ _; omega), rfl, rfl⟩
      | _ =>
        refine iteF (A := True) ?_
        exact ⟨rfl, rfl⟩
    rintro σ _ ⟨rfl, rfl⟩
    refine ⟨fun σ H' => σ = [some (.ref f), some (.ref d), some (.str n), some (.ref a), some (.str (wdS wd)), some (vi x), some (vi p), some (.str (lnW n x p wd))] ∧ H1 = H', ⟨_, rfl, rfl, _, rfl, ?_⟩, ?_⟩
    · rw [wd_given]
      cases wd with
      | given =>
        refine iteT (B := True) ?_
        exact ⟨_, rfl, _, _, rfl, rfl, szl _ (by show (wdS .given ++ " " ++ n).length + _ ≤ _; rw [len_app, len_app]; omega), _, rfl, _, rfl, log_small (by omega), _, _, rfl, rfl, szl _ (by show (wdS .given ++ " " ++ n ++ " ").length + (nT x).length ≤ _; rw [len_app, len_app, len_app]; omega), rfl, rfl⟩
      | _ =>
        refine iteF (A := True) ?_
        exact ⟨rfl, rfl⟩
    rintro σ _ ⟨rfl, rfl⟩
    have pe1 := pe_flow FA b1
    have D1 : DeskAt K g H1 d (tabs ++ [tb]) := Dk.pe pe1 (fun o h => b1 d o fd.symm gd.symm h)
    obtain ⟨ns1, _, _, _, _, g1⟩ := id F1
    have cok : CmdOk (cmW n x p wd) := by
      cases wd with
      | ask => exact ⟨okn, by omega, by omega⟩
      | given => exact ⟨okn, by omega⟩
      | _ => exact okn
    have kp1 : Kp [f, g, d] H H1 := kp_but2 b1 (by simp) (by simp)
    have tw := tellW (tabs := tabs) (x := x) (p := p) wd hlk hx hp okl
    have fk : kindB x p rows.length wd = true → ∀ H2 (q : Addr), But d H1 H2 → DeskAt K g H2 d (tellM tabs tb (cmW n x p wd)).2 → H2 q = some (.tup (ansV (tellM tabs tb (cmW n x p wd)).1)) → ∀ z, H2 z = none → rEqD K (.ref q) (.ref z) (upd H2 z (.tup [.str "kind"])) Q := fun hk H2 q b2 D2 hq z hz => by
      rw [tw, hk] at D2 hq
      exact cmp_ok (a := .kind) (Same.new hz _ _ hq) upd_same trivial (k _ ((b2.flow fd gd F1).keep (Same.new hz)) (D2.same (Same.new hz)) ((kp1.trans (kp_but (by simp) b2)).trans (Kp.of (Same.new hz))))
    refine ⟨fun σ H' => σ = [some (.ref f), some (.ref d), some (.str n), some (.ref a), some (.str (wdS wd)), some (vi x), some (vi p), some (.str (lnW n x p wd))] ∧ H1 = H' ∧ kindB x p rows.length wd = false, ?_, ?_⟩
    · cases wd with
      | ask =>
        refine ⟨_, rfl, rfl, true, (show V.bl (decide (V.str (wdS .ask) = V.str ("ask" : Str))) = V.bl true by decide +kernel), ?_⟩
        refine iteT (B := True) ?_
        refine ⟨_, rfl, _, rfl, _, _, rfl, _, rfl, _, _, rfl, .inr ⟨_, .of (a2 _ b1), rfl⟩, rfl, _, rfl, ?_⟩
        have ec : decide (V.int (if ((p : Nat) : Int) > ((x : Nat) : Int) then ((p : Nat) : Int) else ((x : Nat) : Int)) = V.int (((as.map V.ref).length : Nat) : Int)) = kindB x p rows.length .ask := by
          rw [elen]
          unfold kindB
          by_cases c : p > x
          · rw [if_pos (by omega)]
            exact (dec_vi p rows.length).trans (decide_eq_decide.mpr (by omega))
          · rw [if_neg (by omega)]
            exact (dec_vi x rows.length).trans (decide_eq_decide.mpr (by omega))
        rw [ec]
        cases hk : kindB x p rows.length .ask with
        | true =>
          refine iteT (B := True) ?_
          refine iteT (B := True) ?_
          exact ⟨_, rfl, _, rfl, d, g, _, tabs, tb, cmW n x p .ask, by rw [lnW_eq], D1, RO.ts, cok, g1, gd, fun H2 q b2 D2 hq => ⟨l1, fun z hz => fk hk H2 q b2 D2 hq z hz⟩⟩
        | false =>
          refine iteF (A := True) ?_
          refine ⟨_, rfl, rfl, false, (show V.bl (decide (V.str (wdS .ask) = V.str ("given" : Str))) = V.bl false by decide +kernel), ?_⟩
          refine iteF (A := True) ?_
          refine iteF (A := True) ?_
          exact ⟨rfl, rfl, rfl⟩
      | given =>
        refine ⟨_, rfl, rfl, false, (show V.bl (decide (V.str (wdS .given) = V.str ("ask" : Str))) = V.bl false by decide +kernel), ?_⟩
        refine iteF (A := True) ?_
        refine iteF (A := True) ?_
        refine ⟨_, rfl, rfl, true, (show V.bl (decide (V.str (wdS .given) = V.str ("given" : Str))) = V.bl true by decide +kernel), ?_⟩
        refine iteT (B := True) ?_
        refine ⟨_, rfl, _, rfl, _, _, rfl, .inr ⟨_, .of (a2 _ b1), rfl⟩, rfl, _, rfl, ?_⟩
        have ec : decide (V.int ((x : Nat) : Int) = V.int (((as.map V.ref).length : Nat) : Int)) = kindB x p rows.length .given := by
          rw [elen]
          exact dec_vi x rows.length
        rw [ec]
        cases hk : kindB x p rows.length .given with
        | true =>
          refine iteT (B := True) ?_
          exact ⟨_, rfl, _, rfl, d, g, _, tabs, tb, cmW n x p .given, by rw [lnW_eq], D1, RO.ts, cok, g1, gd, fun H2 q b2 D2 hq => ⟨l1, fun z hz => fk hk H2 q b2 D2 hq z hz⟩⟩
        | false =>
          refine iteF (A := True) ?_
          exact ⟨rfl, rfl, rfl⟩
      | sho =>
        refine ⟨_, rfl, rfl, false, (show V.bl (decide (V.str (wdS .sho) = V.str ("ask" : Str))) = V.bl false by decide +kernel), ?_⟩
        refine iteF (A := True) ?_
        refine iteF (A := True) ?_
        refine ⟨_, rfl, rfl, false, (show V.bl (decide (V.str (wdS .sho) = V.str ("given" : Str))) = V.bl false by decide +kernel), ?_⟩
        refine iteF (A := True) ?_
        refine iteF (A := True) ?_
        exact ⟨rfl, rfl, rfl⟩
      | groups =>
        refine ⟨_, rfl, rfl, false, (show V.bl (decide (V.str (wdS .groups) = V.str ("ask" : Str))) = V.bl false by decide +kernel), ?_⟩
        refine iteF (A := True) ?_
        refine iteF (A := True) ?_
        refine ⟨_, rfl, rfl, false, (show V.bl (decide (V.str (wdS .groups) = V.str ("given" : Str))) = V.bl false by decide +kernel), ?_⟩
        refine iteF (A := True) ?_
        refine iteF (A := True) ?_
        exact ⟨rfl, rfl, rfl⟩
      | slots =>
        refine ⟨_, rfl, rfl, false, (show V.bl (decide (V.str (wdS .slots) = V.str ("ask" : Str))) = V.bl false by decide +kernel), ?_⟩
        refine iteF (A := True) ?_
        refine iteF (A := True) ?_
        refine ⟨_, rfl, rfl, false, (show V.bl (decide (V.str (wdS .slots) = V.str ("given" : Str))) = V.bl false by decide +kernel), ?_⟩
        refine iteF (A := True) ?_
        refine iteF (A := True) ?_
        exact ⟨rfl, rfl, rfl⟩
      | width =>
        refine ⟨_, rfl, rfl, false, (show V.bl (decide (V.str (wdS .width) = V.str ("ask" : Str))) = V.bl false by decide +kernel), ?_⟩
        refine iteF (A := True) ?_
        refine iteF (A := True) ?_
        refine ⟨_, rfl, rfl, false, (show V.bl (decide (V.str (wdS .width) = V.str ("given" : Str))) = V.bl false by decide +kernel), ?_⟩
        refine iteF (A := True) ?_
        refine iteF (A := True) ?_
        exact ⟨rfl, rfl, rfl⟩
    rintro σ _ ⟨rfl, rfl, hk⟩
    refine ⟨_, rfl, _, rfl, d, g, _, tabs, tb, cmW n x p wd, by rw [lnW_eq], D1, RO.ts, cok, g1, gd, fun H2 q b2 D2 hq => ?_⟩
    rw [tw, hk] at D2 hq
    obtain ⟨dx, tp, as0, d1, _, _⟩ := id D1
    have pe2 := pe_desk (g := g) d1 b2
    refine ⟨_, rfl, _, rfl, _, rfl, _, rfl, a, g, _, rows, x, p, wd, rfl, TT2.pe pe2.1 (TT2.pe pe1.1 Rr), okl, by omega, fun c => ?_, b2 _ _ gd g1, fun H3 e3 => ⟨l2, fun z hz => cmp_ok (a := .told (resM rows x p wd)) (Same.new hz _ _ (e3 _ _ hq)) upd_same (sok_res rows x p wd) (k _ (((b2.flow fd gd F1).keep e3).keep (Same.new hz)) ((D2.same e3).same (Same.new hz)) (((kp1.trans (kp_but (by simp) b2)).trans (Kp.of e3)).trans (Kp.of (Same.new hz))))⟩⟩
    rcases c with rfl | rfl
    · have := of_decide_eq_false hk
      omega
    · have := of_decide_eq_false hk
      omega
end
end Lk
set_option Elab.async false
set_option linter.all false
set_option maxRecDepth 100000
set_option maxHeartbeats 4000000
namespace Lk
open PySem PySem.Spec PyProof.Rows L2
open He (ga ma)
section
variable {P : Program} {w : World} {K : PySem.W.Frag} {mg : Str → Option Value} {base : Heap}
theorem RsOk.init {tabs : List Tab} {tb : Tab} (h : RsOk (tabs ++ [tb])) : RsOk tabs := by
  refine ⟨?_, fun i t hi => h.each i t ?_, fun t m => h.ok t (List.mem_append_left _ m)⟩
  · have := h.few
    rw [List.length_append] at this
    omega
  · rw [List.getElem?_append_left (List.getElem?_eq_some_iff.mp hi).1]
    exact hi
theorem LawAt.app {H H2 : Hp} {f g d t u : Addr} {tabs0 : List Tab} {as : List Addr} {kvs : List (Key × V)} {tb : Tab} (L : LawAt K H f g d t tabs0) (hn : tabs0 ≠ []) (ht : H t = some (.lst (as.map V.ref))) (s : Same H H2) (hu : H u = none) (h2 : H2 u = some (.dK kvs)) (en : AllAt (EnT (RowV H2)) kvs tb) :
    FlowAt (upd H2 t (.lst (as.map V.ref ++ [.ref u]))) f g ∧ DeskAt K g (upd H2 t (.lst (as.map V.ref ++ [.ref u]))) d tabs0 ∧ TblAt (upd H2 t (.lst (as.map V.ref ++ [.ref u]))) t (tabs0 ++ [tb]) ∧ Kp [f, g, d, t] H (upd H2 t (.lst (as.map V.ref ++ [.ref u]))) := by
  obtain ⟨n1, n2, n3, n4, n5, n6⟩ := L.ne hn
  have ut : u ≠ t := (ne_of_none ht hu).symm
  have L2 := L.keep s
  have bt : But t H2 (upd H2 t (.lst (as.map V.ref ++ [.ref u]))) := But.upd
  have pe5 := pe_tbl (g := g) L2.tb hn bt
  obtain ⟨as', q1, q2⟩ := L.tb
  obtain rfl : as = as' := by
    rw [ht] at q1
    injection q1 with q1
    injection q1 with q1
    exact List.map_inj_right (fun _ _ h => by injection h) |>.mp q1
  refine ⟨But.flow bt n3 n5 L2.fl, DeskAt.pe pe5 (fun o h => bt d o n6 h) L2.dk, ⟨as ++ [u], by rw [upd_same, List.map_append (l₁ := as)]; rfl, AllAt.snoc (q2.imp fun _ _ h => (TabL.pe (g := g) (.of s) h).pe pe5) ⟨_, bt u _ ut h2, en.imp fun kv e ⟨x, r, b, c⟩ => ⟨x, r, b, TT2.pe pe5.1 c⟩⟩⟩, (Kp.of s).trans (kp_but (by simp) bt)⟩
theorem pe_kp {f g d : Addr} {H H' : Hp} {tabs : List Tab} (F : FlowAt H f g) (D : DeskAt K g H d tabs) (b : Kp [f, g, d] H H') : Pe g H H' := by
  obtain ⟨ns, x, y, z, h1, h2⟩ := F
  obtain ⟨dx, p, as, d1, _, _⟩ := D
  refine ⟨fun a o h fx => b a o (fun c => ?_) h, fun a kvs h => b a _ (fun c => ?_) h⟩
  · rcases List.mem_cons.mp c with rfl | c
    · rw [h1] at h
      cases h
      obtain ⟨_, ms, e⟩ := fx
      cases ms with
      | nil => cases e
      | cons m r => cases e
    rcases List.mem_cons.mp c with rfl | c
    · rw [h2] at h
      cases h
      exact fx.1 rfl
    rcases List.mem_cons.mp c with rfl | c
    · rw [d1] at h
      cases h
      cases fx
    · cases c
  · rcases List.mem_cons.mp c with rfl | c
    · rw [h1] at h
      cases h
    rcases List.mem_cons.mp c with rfl | c
    · rw [h2] at h
      cases h
    rcases List.mem_cons.mp c with rfl | c
    · rw [d1] at h
      cases h
    · cases c
def bkC (i : Nat) (n : Str) : Cmd := match i with
  | 0 => .drop n | 1 => .sho n | 2 => .width n | 3 => .slots n | _ => .groups n
def bkW (i : Nat) : Str := deedC (bkC i "") ++ " "
theorem five {i : Nat} (h : i < 5) : i = 0 ∨ i = 1 ∨ i = 2 ∨ i = 3 ∨ i = 4 := by omega
theorem bk_get {i : Nat} (h : i < 5) : ([.str "drop ", .str "show ", .str "width ", .str "slots ", .str "groups "] : List V)[i]? = some (.str (bkW i)) := by
  rcases five h with rfl | rfl | rfl | rfl | rfl
  · rw [sp_drop]; rfl
  · rw [sp_show]; rfl
  · rw [sp_width]; rfl
  · rw [sp_slots]; rfl
  · rw [sp_groups]; rfl
theorem bk_line {i : Nat} (h : i < 5) (n : Str) : lineT (deedC (bkC i n) :: argsC (bkC i n)) = bkW i ++ n := by
  rcases five h with rfl | rfl | rfl | rfl | rfl
  · exact line2 _ _
  · exact line2 _ _
  · exact line2 _ _
  · exact line2 _ _
  · exact line2 _ _
theorem bk_len {i : Nat} (h : i < 5) : (bkW i).length ≤ 7 := by
  rcases five h with rfl | rfl | rfl | rfl | rfl <;> decide +kernel
theorem bk_tell {tabs : List Tab} {tb : Tab} {i : Nat} {n : Str} (h : i < 5) (hl : lkT tb n = none) : tellM tabs tb (bkC i n) = (.book n, tabs ++ [tb]) := by
  rcases five h with rfl | rfl | rfl | rfl | rfl <;> simp only [bkC, tellM, onT, hl]
theorem bk_ok {i : Nat} {n : Str} (h : i < 5) (hn : NameOk n) : CmdOk (bkC i n) := by
  rcases five h with rfl | rfl | rfl | rfl | rfl <;> exact hn
def spLChg (K : PySem.W.Frag) : Sp := fun vs H Q _ => ∃ (f g d t : Addr) (n : Str) (way shape : Nat) (tabs : List Tab) (tb : Tab), vs = [.ref f, .ref d, .str n, .ref t, vi way, vi shape] ∧ LawAt K H f g d t (tabs ++ [tb]) ∧ RsOk (tabs ++ [tb]) ∧ tabs.length ≤ 50 ∧ shape < 4 ∧ NameOk n ∧
  ∀ H', Left K f g d t H (tabs.length + 1) H' → Q (.bl true) H'
theorem ok_law_changed (PO : ProgOk P) (T : Tx K mg) (F : Fx K) (X : Ex w K) : DefOk P w K mg base (L2.CX P w) 12 (ga K "_law_changed") ["_law_flow_here", "_law_desk", "_law_name_here", "_law_tables", "_law_way", "_law_shape"] (spLChg K) := by
  have DT := ok_law_tell (base := base) PO T F X
  have DU := ok_law_undo (base := base) PO T F X
  have DL := ok_law_load (base := base) PO T F X
  have DA := ok_law_asked (base := base) PO T F X
  have nd := sc_law_changed.nd
  refine def_ok F.f_law_changed bd_law_changed sc_law_changed (fun vs H Q E h => ?_) (fun cdv A outer s0 H vs Q E hr h => ?_)
  · obtain ⟨f, g, d, t, n, way, shape, tabs, tb, rfl, _⟩ := h
    rfl
  · obtain ⟨f, g, d, t, n, way, shape, tabs, tb, rfl, L, RO, hl, hsh, okn, k⟩ := h
    refine ⟨_, pss_cut (ps_set (i := 6) nd rfl (Or.inl rfl) (pe_callTy call_dictD (by rfl) T.b_dict (by decide +kernel) (pa_cons (pe_ix ix_list (pv 3) (pe_un un_neg pe_int) (fun _ _ => rfl)) pa_nil)))
      (pss_cons (ps_if (pt_cmpR op_lt (pv 4) pe_int (nomark _))
        (pss_cut (ps_dput (hu_of hr) (pv 6) (pv 2) (pe_tup pa_nil) (by rfl))
        (pss_cons (ps_expr (pe_bm PySem.F.plainAttrs_list PySem.F.slot_list_append PySem.F.type_list_append mt_append (pv 3) (pa_cons (pv 6) pa_nil)))
        (pss_one (ps_ret (pe_cmpR (op_eqD hr.units) (pe_cal (E := E0) (DT.mono (by decide : 10 ≤ 11)) hr (by rfl) T.g_law_tell passL (pa_cons (pv 1) (pa_cons (pe_op op_add_str pe_str (pv 2)) pa_nil))) (pe_tup (pa_cons pe_str (pa_cons pe_str pa_nil))) (nomark _)))))) pss_nil)
      (pss_cons (ps_if (pt_cmpR op_lt (pv 4) pe_int (nomark _)) (pss_one (ps_ret (pe_cal (E := E0) DU hr (by rfl) T.g_law_undo passL (pa_cons (pv 1) (pa_cons (pv 3) pa_nil))))) pss_nil)
      (pss_cons (ps_if (pt_cmp (pc_dnotin (hu_of hr) (pv 2) (pv 6)))
        (pss_cut (ps_set (i := 7) nd rfl (Or.inl rfl) (pe_ix ix_list (pe_lst (pa_cons pe_str (pa_cons pe_str (pa_cons pe_str (pa_cons pe_str (pa_cons pe_str pa_nil)))))) (pe_op op_mod (pv 4) pe_int) (fun _ _ => rfl)))
        (pss_one (ps_ret (pe_cmpR (op_eqD hr.units) (pe_cal (E := E0) (DT.mono (by decide : 10 ≤ 11)) hr (by rfl) T.g_law_tell passL (pa_cons (pv 1) (pa_cons (pe_op op_add_str (pv 7) (pv 2)) pa_nil))) (pe_tup (pa_cons pe_str (pa_cons (pv 2) pa_nil))) (nomark _))))) pss_nil)
      (pss_cons (ps_if (pt_cmpR op_eq (pv 4) pe_int (nomark _))
        (pss_cut (ps_expr (pe_dpop1 (pv 6) (pv 2) ⟨rfl, rfl, rfl, rfl⟩))
        (pss_cons (ps_expr (pe_bm PySem.F.plainAttrs_list PySem.F.slot_list_append PySem.F.type_list_append mt_append (pv 3) (pa_cons (pv 6) pa_nil)))
        (pss_one (ps_ret (pe_cmpR (op_eqD hr.units) (pe_cal (E := E0) (DT.mono (by decide : 10 ≤ 11)) hr (by rfl) T.g_law_tell passL (pa_cons (pv 1) (pa_cons (pe_op op_add_str pe_str (pv 2)) pa_nil))) (pe_tup (pa_cons pe_str (pa_cons pe_str pa_nil))) (nomark _)))))) pss_nil)
      (pss_cons (ps_if (pt_cmpR op_lt (pv 4) pe_int (nomark _)) (pss_one (ps_ret (pe_cal (E := E0) DL hr (by rfl) T.g_law_load passL (pa_cons (pv 0) (pa_cons (pv 1) (pa_cons (pv 2) (pa_cons (pv 3) (pa_cons (pv 5) pa_nil)))))))) pss_nil)
      (pss_one (ps_ret (pe_cal (E := E0) DA hr (by rfl) T.g_law_asked passL (pa_cons (pv 0) (pa_cons (pv 1) (pa_cons (pv 2) (pa_cons (pe_dget (hu_of hr) (pv 6) (pv 2) (fun _ _ => rfl)) pa_nil)))))))))))), ?_⟩
    obtain ⟨n1, n2, n3, n4, n5, n6⟩ := L.ne (by simp)
    obtain ⟨rl1, rl2⟩ := RO.last
    obtain ⟨bs, t1, t2⟩ := id L.tb
    obtain ⟨bs', b', rfl, t3, kvs, t4, t5⟩ := t2.last
    obtain ⟨ns0, fx, fy, fz, f1, f2⟩ := id L.fl
    have nl := okn.2.1
    have l51 : (tabs ++ [tb]).length = tabs.length + 1 := by simp
    refine ⟨fun σ H' => ∃ u, σ = [some (.ref f), some (.ref d), some (.str n), some (.ref t), some (vi way), some (vi shape), some (.ref u), none] ∧ H u = none ∧ H' = upd H u (.dK kvs), ⟨_, rfl, _, rfl, t, _, _, _, rfl, rfl, .of t1, last_ref bs' b', b', kvs, rfl, .of t4, fun u hu => ⟨u, rfl, hu, rfl⟩⟩, ?_⟩
    rintro σ _ ⟨u, rfl, hu, rfl⟩
    have su : Same H (upd H u (.dK kvs)) := Same.new hu
    have hk : upd H u (.dK kvs) u = some (.dK kvs) := upd_same
    have hkl : kvs.length ≤ 1000 := by rw [t5.1]; omega
    have hal : ((bs' ++ [b']).map V.ref).length < sizeLine := by
      rw [List.length_map, t2.1, l51]
      exact small1000 (by omega)
    have LL := L.keep su
    generalize upd H u (.dK kvs) = H1 at su hk LL ⊢
    have fin : ∀ (H2 : Hp) (x : Tab) (kv2 : List (Key × V)) (c : Cmd), Same H H2 → H2 u = some (.dK kv2) → AllAt (EnT (RowV H2)) kv2 x → x.length ≤ tabs.length + 1 → (∀ e ∈ x, NameOk e.1 ∧ Ld e.2 ∧ e.2.length ≤ 9) → tellM tabs tb c = (.told "ok", tabs ++ [tb] ++ [x]) →
        ∀ H4 p, But d (upd H2 t (.lst ((bs' ++ [b']).map V.ref ++ [.ref u]))) H4 → DeskAt K g H4 d (tellM tabs tb c).2 → H4 p = some (.tup (ansV (tellM tabs tb c).1)) → ∀ z, H4 z = none → rEqD K (.ref p) (.ref z) (upd H4 z (.tup [.str "told", .str "ok"])) Q := fun H2 x kv2 c s2 h2 en xl xo tw H4 p b4 D4 hp z hz => by
      rw [tw] at D4 hp
      obtain ⟨F3, D3, T3, kp3⟩ := L.app (by simp) t1 s2 hu h2 en
      obtain ⟨dx, tp, as0, d3, _, _⟩ := id D3
      have pe4 := pe_desk (g := g) d3 b4
      exact cmp_ok (a := .told "ok") (Same.new hz _ _ hp) upd_same (sok_of _) (k _ ⟨_, ⟨(b4.flow n2 n4 F3).keep (Same.new hz), D4.same (Same.new hz), (T3.pe pe4 (fun o h => b4 t o n6.symm h)).pe (g := g) (.of (Same.new hz)) (Same.new hz t)⟩, RO.snoc (by omega) (by omega) xo, by simp, by simp, (kp3.trans (kp_but (by simp) b4)).trans (Kp.of (Same.new hz))⟩)
    have e3 : decide (((way : Nat) : Int) < 3) = decide (way < 3) := dec_lt way 3
    have e6 : decide (((way : Nat) : Int) < 6) = decide (way < 6) := dec_lt way 6
    have e18 : decide (((way : Nat) : Int) < 18) = decide (way < 18) := dec_lt way 18
    refine ⟨_, rfl, _, _, rfl, rfl, _, rfl, ?_⟩
    rw [e3]
    by_cases c3 : way < 3
    · rw [decide_eq_true c3]
      refine iteT (B := True) ?_
      refine ⟨fun σ H' => σ = [some (.ref f), some (.ref d), some (.str n), some (.ref t), some (vi way), some (vi shape), some (.ref u), none] ∧ ∃ e, Same H H' ∧ H' u = some (.dK (putK kvs (.inr n) (.ref e))) ∧ TT2 H' e [], ⟨l0, fun e he => ⟨_, rfl, _, rfl, u, _, rfl, DPut.k (k := .inr n) (v := .ref e) (Same.new he _ _ hk) (small1000 hkl), rfl, e, same_upd hu (su.trans (Same.new he)), upd_same, [], ?_, .nil⟩⟩, ?_⟩
      · rw [upd_ne (ne_of_none hk he).symm]
        exact upd_same
      rintro σ H2 ⟨rfl, e, s2, h2, tt⟩
      refine ⟨_, rfl, .inl ⟨rfl, _, .of (s2 _ _ t1)⟩, _, rfl, t, _, .ref u, rfl, rfl, s2 _ _ t1, hal, ?_⟩
      have en := tab_put (t5.imp fun kv e ⟨x, r, b, c⟩ => (⟨x, r, b, TT2.same s2 c⟩ : EnT (RowV H2) kv e)) n (r := []) (v := .ref e) ⟨e, rfl, tt⟩
      obtain ⟨F3, D3, T3, kp3⟩ := L.app (by simp) t1 s2 hu h2 en
      obtain ⟨_, _, _, _, _, g3⟩ := id F3
      have z1 : ("new " : Str).length = 4 := by decide +kernel
      refine ⟨_, rfl, _, rfl, _, _, rfl, rfl, szl _ (by omega), d, g, _, tabs, tb, .new n, by rw [show lineT (deedC (.new n) :: argsC (.new n)) = ("new" : Str) ++ " " ++ n from line2 _ _, sp_new], D3, RO.ts, okn, g3, n4, fun H4 p b4 D4 hp => ⟨l2, fun z hz => fin H2 _ _ _ s2 h2 en (by have := ptT_len tb n []; omega) (ptT_ok rl2 okn (fun i r hi => by cases hi) (by decide)) rfl H4 p b4 D4 hp z hz⟩⟩
    rw [decide_eq_false c3]
    refine iteF (A := True) ?_
    refine ⟨_, rfl, _, _, rfl, rfl, _, rfl, ?_⟩
    rw [e6]
    by_cases c6 : way < 6
    · rw [decide_eq_true c6]
      refine iteT (B := True) ?_
      refine ⟨_, rfl, _, rfl, d, t, g, _, tabs, tb, rfl, LL.dk, LL.tb, RO, su _ _ f2, n4, n6.symm, fun H' tabs' i1 i2 kp D' T' => ?_⟩
      have F' : FlowAt H' f g := ⟨ns0, fx, fy, fz, kp _ _ (by simp [n2, n3]) (su _ _ f1), kp _ _ (by simp [n4, n5]) (su _ _ f2)⟩
      have kp' : Kp [f, g, d, t] H H' := (Kp.of su).trans (kp.mono (by simp))
      cases tabs with
      | nil =>
        obtain rfl := i2 rfl
        exact k _ ⟨_, ⟨F', D', T'⟩, RO, by simp, by simp, kp'⟩
      | cons t0 tr =>
        obtain rfl := i1 (by simp)
        exact k _ ⟨_, ⟨F', D', T'⟩, RO.init, by simp, by simp, kp'⟩
    rw [decide_eq_false c6]
    refine iteF (A := True) ?_
    refine ⟨_, rfl, _, rfl, u, _, rfl, DGet.k (k := .inr n) hk, _, rfl, ?_⟩
    obtain ⟨v1, v2⟩ | ⟨rows, v, v1, v2, ra, rfl, Rr⟩ := tab_val t5 n
    · rw [v2]
      refine iteT (B := True) ?_
      have i5 : way % 5 < 5 := Nat.mod_lt _ (by decide)
      refine ⟨fun σ H' => σ = [some (.ref f), some (.ref d), some (.str n), some (.ref t), some (vi way), some (vi shape), some (.ref u), some (.str (bkW (way % 5)))] ∧ Same H H', ⟨(by decide : 5 ≤ sizeLine), fun l hl => ⟨_, rfl, _, _, rfl, rfl, (show (0 : Int) < 5 by decide), l, _, _, _, rfl, rfl, .of upd_same, atI_nat (j := way % 5) (bk_get i5), rfl, su.trans (Same.new hl)⟩⟩, ?_⟩
      rintro σ H2 ⟨rfl, s2⟩
      have L3 := L.keep s2
      have bl := bk_len i5
      refine ⟨_, rfl, _, rfl, _, rfl, _, _, rfl, rfl, szl _ (by omega), d, g, _, tabs, tb, bkC (way % 5) n, by rw [bk_line i5], L3.dk, RO.ts, bk_ok i5 okn, s2 _ _ f2, n4, fun H4 p b4 D4 hp => ?_⟩
      obtain ⟨F4, T4⟩ := L3.told (by simp) b4 D4
      rw [bk_tell i5 v1] at D4 hp
      exact ⟨_, rfl, l2, fun z hz => cmp_ok (a := .book n) (Same.new hz _ _ hp) upd_same (sok_name okn) (k _ ⟨_, ⟨F4.keep (Same.new hz), D4.same (Same.new hz), T4.pe (g := g) (.of (Same.new hz)) (Same.new hz t)⟩, RO, by simp, by simp, ((Kp.of s2).trans (kp_but (by simp) b4)).trans (Kp.of (Same.new hz))⟩)⟩
    · rw [v2]
      refine iteF (A := True) ?_
      refine ⟨_, rfl, rfl, _, rfl, ?_⟩
      rw [show decide (V.int ((way : Nat) : Int) = V.int 6) = decide (way = 6) from dec_vi way 6]
      by_cases c7 : way = 6
      · rw [decide_eq_true c7]
        refine iteT (B := True) ?_
        refine ⟨fun σ H' => σ = [some (.ref f), some (.ref d), some (.str n), some (.ref t), some (vi way), some (vi shape), some (.ref u), none] ∧ Same H H' ∧ H' u = some (.dK (dropK kvs (.inr n))), ⟨_, rfl, u, rfl, .inl ⟨kvs, .of hk⟩, _, rfl, kvs, .inr n, _, hk, rfl, v2, rfl, same_upd hu su, upd_same⟩, ?_⟩
        rintro σ H2 ⟨rfl, s2, h2⟩
        refine ⟨_, rfl, .inl ⟨rfl, _, .of (s2 _ _ t1)⟩, _, rfl, t, _, .ref u, rfl, rfl, s2 _ _ t1, hal, ?_⟩
        have en := tab_drop (t5.imp fun kv e ⟨x, r, b, c⟩ => (⟨x, r, b, TT2.same s2 c⟩ : EnT (RowV H2) kv e)) n
        obtain ⟨F3, D3, T3, kp3⟩ := L.app (by simp) t1 s2 hu h2 en
        obtain ⟨_, _, _, _, _, g3⟩ := id F3
        have z1 : ("drop " : Str).length = 5 := by decide +kernel
        refine ⟨_, rfl, _, rfl, _, _, rfl, rfl, szl _ (by omega), d, g, _, tabs, tb, .drop n, by rw [show lineT (deedC (.drop n) :: argsC (.drop n)) = ("drop" : Str) ++ " " ++ n from line2 _ _, sp_drop], D3, RO.ts, okn, g3, n4, fun H4 p b4 D4 hp => ⟨l2, fun z hz => fin H2 _ _ _ s2 h2 en (by have := dpT_len tb n; omega) (fun e m => rl2 e (List.mem_filter.mp m).1) (by simp only [tellM, onT, v1]) H4 p b4 D4 hp z hz⟩⟩
      rw [decide_eq_false c7]
      refine iteF (A := True) ?_
      refine ⟨_, rfl, _, _, rfl, rfl, _, rfl, ?_⟩
      rw [e18]
      by_cases c18 : way < 18
      · rw [decide_eq_true c18]
        refine iteT (B := True) ?_
        exact ⟨_, rfl, _, rfl, _, rfl, _, rfl, _, rfl, f, g, d, t, n, shape, tabs, tb, rows, rfl, LL, RO, hl, hsh, v1, fun H' ⟨tabs', L', R', a, b, kp⟩ => k H' ⟨tabs', L', R', a, b, (Kp.of su).trans kp⟩⟩
      · rw [decide_eq_false c18]
        refine iteF (A := True) ?_
        refine ⟨_, rfl, _, rfl, _, rfl, _, rfl, _, rfl, u, _, rfl, (show DGet H1 u (kV (.inr n)) (some (.ref ra)) by rw [← v2]; exact DGet.k hk), f, g, d, ra, n, tabs, tb, rows, rfl, LL.fl, LL.dk, TT2.same su Rr, RO, v1, n2, n4, fun H' F' D' kp => ?_⟩
        exact k H' ⟨_, ⟨F', D', LL.tb.pe (pe_kp LL.fl LL.dk kp) (fun o h => kp t o (by simp [n3.symm, n5.symm, n6.symm]) h)⟩, RO, by simp, by simp, (Kp.of su).trans (kp.mono (by simp +contextual))⟩
end
end Lk
set_option Elab.async false
set_option linter.all false
set_option maxRecDepth 100000
set_option maxHeartbeats 4000000
namespace Lk
open PySem PySem.Spec PyProof.Rows L2
open He (ga ma)
section
variable {P : Program} {w : World} {K : PySem.W.Frag} {mg : Str → Option Value} {base : Heap}
def spLaw (K : PySem.W.Frag) : Sp := fun vs H Q _ => ∃ (a : Addr) (ns : List Int), vs = [.ref a] ∧ SqL K H a (ns.map V.int) ∧ ∀ H', Q (.bl true) H'
theorem desk0 {g g' d : Addr} {H : Hp} (h : DeskAt K g H d [[]]) : DeskAt K g' H d [[]] := by
  obtain ⟨dx, p, as, h1, h2, h3⟩ := h
  refine ⟨dx, p, as, h1, h2, h3.1, fun i x y hx hy => ?_⟩
  obtain ⟨kvs, k1, k2⟩ := h3.2 i x y hx hy
  have : y = [] := by
    have := List.mem_of_getElem? hy
    rw [List.mem_singleton] at this
    exact this
  subst this
  have : kvs = [] := List.length_eq_zero_iff.mp k2.1
  subst this
  exact ⟨[], k1, .nil⟩
theorem rs0 : RsOk [[]] := ⟨by decide, fun i t h => by
  have := List.mem_of_getElem? h
  rw [List.mem_singleton] at this
  rw [this]
  exact Nat.zero_le _, fun t m e me => by
  rw [List.mem_singleton] at m
  rw [m] at me
  cases me⟩
theorem law_body (PO : ProgOk P) (T : Tx K mg) (F : Fx K) (X : Ex w K) : ∀ (cdv : Value) (A : Around) (outer : List Env) (s : Shared) (H : Hp) (vs : List V) (Q : VK) (E : XK), Room 12 (A.deeper (envOfC "law" (defScope s_law) s.heap.objs.size (ga K "law") cdv)) → spLaw K vs H Q E →
      ∃ t, PSs (cxOf CX0 P w K mg base N_law "law" (defScope s_law) (ga K "law") cdv A outer s H E).nox (defBody s_law) t ∧ t { nx := fun _ H' => Q .non H', rt := Q } (start N_law vs) H := by
  have D1 := ok_law_flow (P := P) (w := w) (base := base) T F
  have D2 := ok_law_draw (P := P) (w := w) (base := base) T F
  have D3 := ok_law_name (P := P) (w := w) (base := base) T F
  have D4 := ok_Desk_init (P := P) (w := w) (base := base) T F
  have D5 := ok_law_changed (base := base) PO T F X
  have D6 := ok_Desk_undoable (P := P) (w := w) (base := base) T F
  have D7 := ok_law_stands (base := base) PO T F X
  have D8 := ok_law_undo (base := base) PO T F X
  have nd := sc_law.nd
  intro cdv A outer s0 H vs Q E hr h
  · obtain ⟨a, ns, rfl, ha, k⟩ := h
    refine ⟨_, pss_cut (ps_set (i := 1) nd rfl (Or.inl rfl) (pe_cal (D1.mono (by decide : 1 ≤ 12)) hr (by rfl) T.g_law_flow pass0 (pa_cons (pv 0) pa_nil)))
      (pss_cut (ps_set (i := 2) nd rfl (Or.inl rfl) (pe_cal (D2.mono (by decide : 1 ≤ 12)) hr (by rfl) T.g_law_draw pass0 (pa_cons (pv 1) (pa_cons pe_int pa_nil))))
      (pss_cut (ps_set (i := 3) nd rfl (Or.inl rfl) (pe_op op_add pe_int (pe_cal (D2.mono (by decide : 1 ≤ 12)) hr (by rfl) T.g_law_draw pass0 (pa_cons (pv 1) (pa_cons pe_int pa_nil)))))
      (pss_cut (ps_set (i := 4) nd rfl (Or.inl rfl) (pe_lst (pa_cons (pe_cal (D3.mono (by decide : 2 ≤ 12)) hr (by rfl) T.g_law_name pass0 (pa_cons (pv 1) pa_nil)) (pa_cons (pe_cal (D3.mono (by decide : 2 ≤ 12)) hr (by rfl) T.g_law_name pass0 (pa_cons (pv 1) pa_nil)) (pa_cons (pe_cal (D3.mono (by decide : 2 ≤ 12)) hr (by rfl) T.g_law_name pass0 (pa_cons (pv 1) pa_nil)) pa_nil)))))
      (pss_cut (ps_set (i := 5) nd rfl (Or.inl rfl) (pe_mak0 T.k_Desk (D4.mono (by decide : 1 ≤ 11)) hr (by rfl) T.g_Desk pass0))
      (pss_cut (ps_set (i := 6) nd rfl (Or.inl rfl) (pe_lst (pa_cons pe_dnewK pa_nil)))
      (pss_cut (ps_for PassesOwn.never rfl (pi_range1 (by rfl) T.b_range (pa_cons (pv 3) pa_nil)) (pg_name (i := 7) nd rfl (Or.inl rfl))
        (pss_cut (ps_set (i := 8) nd rfl (Or.inl rfl) (pe_ix ix_list (pv 4) (pe_cal (D2.mono (by decide : 1 ≤ 12)) hr (by rfl) T.g_law_draw pass0 (pa_cons (pv 1) (pa_cons pe_int pa_nil))) (fun _ _ => rfl)))
        (pss_cut (ps_set (i := 9) nd rfl (Or.inl rfl) (pe_cal (D2.mono (by decide : 1 ≤ 12)) hr (by rfl) T.g_law_draw pass0 (pa_cons (pv 1) (pa_cons pe_int pa_nil))))
        (pss_cut (ps_if (pt_not (pt_val (pe_cal (E := E0) D5 hr (by rfl) T.g_law_changed passL (pa_cons (pv 1) (pa_cons (pv 5) (pa_cons (pv 8) (pa_cons (pv 6) (pa_cons (pv 9) (pa_cons (pv 2) pa_nil))))))))) pss_never pss_nil)
        (pss_cut (ps_set (i := 10) nd rfl (Or.inl rfl) (pe_met0 (pv 5) T.c_Desk T.m_Desk_undoable (D6.mono (by decide : 1 ≤ 12)) hr pass0))
        (pss_one (ps_if (PW.pt (pw_or (pt_cmpR op_ne (pe_callB SkE.call_repr_int (by rfl) T.b_repr (by decide +kernel) (pa_cons (pv 10) pa_nil)) (pe_callB SkE.call_repr_int (by rfl) T.b_repr (by decide +kernel) (pa_cons (pe_op op_sub (pe_callB call_len (by rfl) T.b_len (by decide +kernel) (pa_cons (pv 6) pa_nil)) pe_int) pa_nil)) (nomark _))
          (pw_or1 (pt_not (pt_val (pe_cal (E := E0) (D7.mono (by decide : 11 ≤ 12)) hr (by rfl) T.g_law_stands passL (pa_cons (pv 5) (pa_cons (pe_ix ix_list (pv 6) (pe_un un_neg pe_int) (fun _ _ => rfl)) pa_nil)))))))) pss_never pss_nil)))))))
      (pss_cut (ps_for PassesOwn.never rfl (pi_range1 (by rfl) T.b_range (pa_cons (pe_callB call_len (by rfl) T.b_len (by decide +kernel) (pa_cons (pv 6) pa_nil)) pa_nil)) (pg_name (i := 7) nd rfl (Or.inl rfl))
        (pss_one (ps_if (PW.pt (pw_or (pt_not (pt_val (pe_cal (E := E0) (D7.mono (by decide : 11 ≤ 12)) hr (by rfl) T.g_law_stands passL (pa_cons (pv 5) (pa_cons (pe_ix ix_list (pv 6) (pe_un un_neg pe_int) (fun _ _ => rfl)) pa_nil)))))
          (pw_or1 (pt_not (pt_val (pe_cal (E := E0) (D8.mono (by decide : 11 ≤ 12)) hr (by rfl) T.g_law_undo passL (pa_cons (pv 5) (pa_cons (pv 6) pa_nil)))))))) pss_never pss_nil)))
      (pss_one (ps_ret (pe_and (pe_cal (E := E0) (D7.mono (by decide : 11 ≤ 12)) hr (by rfl) T.g_law_stands passL (pa_cons (pv 5) (pa_cons pe_dnewK pa_nil)))
        (pe_and (pe_cmpR op_eq (pe_met0 (pv 5) T.c_Desk T.m_Desk_undoable (D6.mono (by decide : 1 ≤ 12)) hr pass0) pe_int (nomark _)) (pe_one (pe_cal (E := E0) (D8.mono (by decide : 11 ≤ 12)) hr (by rfl) T.g_law_undo passL (pa_cons (pv 5) (pa_cons (pv 6) pa_nil))))))))))))))), ?_⟩
    refine ⟨fun σ H' => ∃ f g, σ = [some (.ref a), some (.ref f), none, none, none, none, none, none, none, none, none] ∧ FlowAt H' f g, ⟨_, rfl, a, ns, rfl, ha, fun f g H1 s1 F1 _ _ => ⟨f, g, rfl, F1⟩⟩, ?_⟩
    rintro σ H1 ⟨f, g, rfl, F1⟩
    refine ⟨fun σ H' => ∃ sh : Nat, sh < 4 ∧ σ = [some (.ref a), some (.ref f), some (vi sh), none, none, none, none, none, none, none, none] ∧ FlowAt H' f g, ⟨_, rfl, f, g, 4, rfl, F1, by decide, by decide, fun m H2 hm F2 b2 => ⟨m, hm, rfl, F2⟩⟩, ?_⟩
    rintro σ H2 ⟨sh, hsh, rfl, F2⟩
    refine ⟨fun σ H' => ∃ wn : Nat, wn ≤ 50 ∧ σ = [some (.ref a), some (.ref f), some (vi sh), some (vi wn), none, none, none, none, none, none, none] ∧ FlowAt H' f g, ⟨_, rfl, f, g, 50, rfl, F2, by decide, by decide, fun m H3 hm F3 b3 => ⟨_, _, rfl, rfl, m + 1, by omega, ?_, F3⟩⟩, ?_⟩
    · show [_, _, _, some (V.int (1 + ((m : Nat) : Int))), _, _, _, _, _, _, _] = _
      rw [show 1 + ((m : Nat) : Int) = ((m + 1 : Nat) : Int) by omega]
    rintro σ H3 ⟨wn, hwn, rfl, F3⟩
    refine ⟨fun σ H' => ∃ nl x0 x1 x2, NameOk x0 ∧ NameOk x1 ∧ NameOk x2 ∧ σ = [some (.ref a), some (.ref f), some (vi sh), some (vi wn), some (.ref nl), none, none, none, none, none, none] ∧ FlowAt H' f g ∧ H' nl = some (.lst [.str x0, .str x1, .str x2]), ⟨_, rfl, f, g, rfl, F3, fun x0 H4 o0 F4 b4 => ⟨_, rfl, f, g, rfl, F4, fun x1 H5 o1 F5 b5 => ⟨_, rfl, f, g, rfl, F5, fun x2 H6 o2 F6 b6 => ⟨(by decide : 3 ≤ sizeLine), fun nl hn => ⟨nl, x0, x1, x2, o0, o1, o2, rfl, F6.keep (Same.new hn), upd_same⟩⟩⟩⟩⟩, ?_⟩
    rintro σ H4 ⟨nl, x0, x1, x2, o0, o1, o2, rfl, F4, hl4⟩
    refine ⟨fun σ H' => ∃ d, σ = [some (.ref a), some (.ref f), some (vi sh), some (vi wn), some (.ref nl), some (.ref d), none, none, none, none, none] ∧ FlowAt H' f g ∧ H' nl = some (.lst [.str x0, .str x1, .str x2]) ∧ DeskAt K g H' d [[]], ?_, ?_⟩
    · refine fun x dx1 hx hdx hn => ⟨x, dx1, rfl, upd_same, fun g' H5 bt D5 => ⟨rfl, x, rfl, F4.keep (mk_ins hx hdx hn bt), mk_ins hx hdx hn bt _ _ hl4, desk0 D5⟩⟩
    rintro σ H5 ⟨d, rfl, F5, hl5, D5⟩
    refine ⟨fun σ H' => ∃ t, σ = [some (.ref a), some (.ref f), some (vi sh), some (vi wn), some (.ref nl), some (.ref d), some (.ref t), none, none, none, none] ∧ LawAt K H' f g d t [[]] ∧ H' nl = some (.lst [.str x0, .str x1, .str x2]), ?_, ?_⟩
    · refine fun e he => ⟨l1, fun p hp => ?_⟩
      have s1 : Same H5 (upd (upd H5 e (.dK [])) p (.lst [.ref e])) := (Same.new he).trans (Same.new hp)
      exact ⟨p, rfl, ⟨F5.keep s1, D5.same s1, ⟨[e], upd_same, AllAt.one ⟨[], Same.new hp _ _ upd_same, .nil⟩⟩⟩, s1 _ _ hl5⟩
    rintro σ H6 ⟨t, rfl, L6, hl6⟩
    obtain ⟨n1, n2, n3, n4, n5, n6⟩ := L6.ne (by simp)
    have nlf : nl ≠ f := by
      obtain ⟨_, _, _, _, q, _⟩ := L6.fl
      exact ne_of hl6 q (by intro c; cases c)
    have nlg : nl ≠ g := by
      obtain ⟨_, _, _, _, _, q⟩ := L6.fl
      exact ne_of hl6 q (by intro c; injection c with c; revert c; intro c; rename_i z _ _ _ _; cases z <;> cases c)
    have nld : nl ≠ d := by
      obtain ⟨_, _, _, q, _, _⟩ := L6.dk
      exact ne_of hl6 q (by intro c; cases c)
    have nlt : nl ≠ t := by
      obtain ⟨z, q, _⟩ := L6.tb
      exact ne_of hl6 q (by intro c; injection c with c; cases z <;> cases c)
    refine ⟨fun σ H' => ∃ tabs v7 v8 v9 v10, σ = [some (.ref a), some (.ref f), some (vi sh), some (vi wn), some (.ref nl), some (.ref d), some (.ref t), v7, v8, v9, v10] ∧ LawAt K H' f g d t tabs ∧ RsOk tabs ∧ tabs ≠ [], ⟨_, rfl, _, rfl, by omega, by omega, for_range (n := wn) (fun i σ H' => ∃ tabs v7 v8 v9 v10, σ = [some (.ref a), some (.ref f), some (vi sh), some (vi wn), some (.ref nl), some (.ref d), some (.ref t), v7, v8, v9, v10] ∧ LawAt K H' f g d t tabs ∧ RsOk tabs ∧ tabs ≠ [] ∧ tabs.length ≤ i + 1 ∧ H' nl = some (.lst [.str x0, .str x1, .str x2])) ⟨[[]], none, none, none, none, rfl, L6, rs0, by simp, by simp, hl6⟩ ?_ ?_⟩, ?_⟩
    · rintro i σ H7 hi ⟨tabs, v7, v8, v9, v10, rfl, L7, RO, hne, hlen, hl7⟩
      refine ⟨fun σ H' => ∃ n, NameOk n ∧ σ = [some (.ref a), some (.ref f), some (vi sh), some (vi wn), some (.ref nl), some (.ref d), some (.ref t), some (.int (0 + i)), some (.str n), v9, v10] ∧ FlowAt H' f g ∧ But2 f g H7 H', ⟨_, rfl, _, rfl, f, g, 3, rfl, L7.fl, by decide, by decide, fun m H8 hm F8 b8 => ?_⟩, ?_⟩
      · obtain ⟨n, on, hat⟩ : ∃ n, NameOk n ∧ atI [V.str x0, .str x1, .str x2] ((m : Nat) : Int) = some (.str n) := by
          obtain rfl | rfl | rfl : m = 0 ∨ m = 1 ∨ m = 2 := by omega
          · exact ⟨x0, o0, rfl⟩
          · exact ⟨x1, o1, rfl⟩
          · exact ⟨x2, o2, rfl⟩
        exact ⟨nl, _, _, _, rfl, rfl, .of (b8 _ _ nlf nlg hl7), hat, n, on, rfl, F8, b8⟩
      rintro σ H8 ⟨n, on, rfl, F8, b8⟩
      refine ⟨fun σ H' => ∃ way : Nat, σ = [some (.ref a), some (.ref f), some (vi sh), some (vi wn), some (.ref nl), some (.ref d), some (.ref t), some (.int (0 + i)), some (.str n), some (vi way), v10] ∧ FlowAt H' f g ∧ But2 f g H7 H', ⟨_, rfl, f, g, 30, rfl, F8, by decide, by decide, fun m H9 hm F9 b9 => ⟨m, rfl, F9, b8.trans b9⟩⟩, ?_⟩
      rintro σ H9 ⟨way, rfl, F9, b9⟩
      have L9 := L7.drawn hne F9 b9
      obtain ⟨ini, tb, rfl⟩ : ∃ ini tb, tabs = ini ++ [tb] := ⟨_, _, (List.dropLast_concat_getLast hne).symm⟩
      have hl51 : ini.length + 1 ≤ i + 1 := by
        rw [List.length_append] at hlen
        exact hlen
      refine ⟨fun σ H' => ∃ tabs', σ = [some (.ref a), some (.ref f), some (vi sh), some (vi wn), some (.ref nl), some (.ref d), some (.ref t), some (.int (0 + i)), some (.str n), some (vi way), v10] ∧ LawAt K H' f g d t tabs' ∧ RsOk tabs' ∧ tabs' ≠ [] ∧ tabs'.length ≤ i + 2 ∧ H' nl = some (.lst [.str x0, .str x1, .str x2]), ⟨_, rfl, _, rfl, _, rfl, _, rfl, _, rfl, _, rfl, f, g, d, t, n, way, sh, ini, tb, rfl, L9, RO, by omega, hsh, on, fun H10 ⟨tabs', L', R', ne', le', kp⟩ => ⟨_, rfl, ?_⟩⟩, ?_⟩
      · refine iteF (A := True) ?_
        exact ⟨tabs', rfl, L', R', ne', by omega, kp _ _ (by simp [nlf, nlg, nld, nlt]) (b9 _ _ nlf nlg hl7)⟩
      rintro σ H10 ⟨tabs', rfl, L', R', ne', le', hl10⟩
      obtain ⟨dx, tp, as0, d1, _, _⟩ := id L'.dk
      refine ⟨fun σ H' => σ = [some (.ref a), some (.ref f), some (vi sh), some (vi wn), some (.ref nl), some (.ref d), some (.ref t), some (.int (0 + i)), some (.str n), some (vi way), some (.int ((tabs'.length : Nat) - 1))] ∧ H10 = H', ⟨_, rfl, d, dx, _, rfl, d1, rfl, d, g, tabs', rfl, L'.dk, rfl, rfl⟩, ?_⟩
      rintro σ _ ⟨rfl, rfl⟩
      obtain ⟨cs, q1, q2⟩ := id L'.tb
      have few := R'.few
      have hlc : (cs.map V.ref).length = tabs'.length := by rw [List.length_map, q2.1]
      refine ⟨_, rfl, _, rfl, log_small (by omega), _, rfl, _, _, rfl, .inl ⟨_, .of q1, rfl⟩, _, _, rfl, rfl, _, rfl, log_small (by omega), rfl, _, rfl, ?_⟩
      have e0 : (!decide (V.str (Str.ofString (toString (((tabs'.length : Nat) : Int) - 1))) = V.str (Str.ofString (toString ((((cs.map V.ref).length : Nat) : Int) - 1))))) = false := by
        rw [hlc, decide_eq_true rfl]
        rfl
      rw [e0]
      refine iteF (A := True) ?_
      obtain ⟨ini', tb', rfl⟩ : ∃ ini tb, tabs' = ini ++ [tb] := ⟨_, _, (List.dropLast_concat_getLast ne').symm⟩
      obtain ⟨cs', c', rfl, q3, q4⟩ := q2.last
      obtain ⟨_, _, _, _, _, g1⟩ := id L'.fl
      refine ⟨_, rfl, _, rfl, _, rfl, t, _, _, _, rfl, rfl, .of q1, last_ref cs' c', d, c', g, _, ini', tb', rfl, L'.dk, q4, R', g1, n4, fun H11 b11 D11 => ⟨_, rfl, ?_⟩⟩
      refine iteF (A := True) ?_
      obtain ⟨F11, T11⟩ := L'.told ne' b11 D11
      exact ⟨_, _, _, _, _, rfl, ⟨F11, D11, T11⟩, R', ne', by omega, b11 _ _ nld hl10⟩
    · rintro σ H7 ⟨tabs, v7, v8, v9, v10, rfl, L7, RO, hne, hlen, hl7⟩
      exact ⟨tabs, v7, v8, v9, v10, rfl, L7, RO, hne⟩
    rintro σ H7 ⟨tabs, v7, v8, v9, v10, rfl, L7, RO, hne⟩
    obtain ⟨cs, q1, q2⟩ := id L7.tb
    have hlc : (cs.map V.ref).length = tabs.length := by rw [List.length_map, q2.1]
    have few := RO.few
    refine ⟨fun σ H' => ∃ tabs v7 v8 v9 v10, σ = [some (.ref a), some (.ref f), some (vi sh), some (vi wn), some (.ref nl), some (.ref d), some (.ref t), v7, v8, v9, v10] ∧ LawAt K H' f g d t tabs ∧ RsOk tabs ∧ tabs ≠ [] ∧ tabs.length ≤ 1, ⟨_, rfl, _, _, rfl, .inl ⟨_, .of q1, rfl⟩, _, rfl, by omega, by omega, ?_⟩, ?_⟩
    · rw [hlc, Int.toNat_natCast]
      generalize hN : tabs.length = N
      refine for_range (n := N) (fun i σ H' => ∃ tabs v7, σ = [some (.ref a), some (.ref f), some (vi sh), some (vi wn), some (.ref nl), some (.ref d), some (.ref t), v7, v8, v9, v10] ∧ LawAt K H' f g d t tabs ∧ RsOk tabs ∧ tabs ≠ [] ∧ tabs.length ≤ max 1 (N - i)) ⟨tabs, v7, rfl, L7, RO, hne, by omega⟩ ?_ ?_
      · rintro i σ H8 hi ⟨ts, v7, rfl, L8, R8, ne8, le8⟩
        obtain ⟨ini, tb, rfl⟩ : ∃ ini tb, ts = ini ++ [tb] := ⟨_, _, (List.dropLast_concat_getLast ne8).symm⟩
        obtain ⟨es, r1, r2⟩ := id L8.tb
        obtain ⟨es', e', rfl, r3, r4⟩ := r2.last
        obtain ⟨_, _, _, _, _, g1⟩ := id L8.fl
        refine ⟨_, rfl, _, rfl, _, rfl, t, _, _, _, rfl, rfl, .of r1, last_ref es' e', d, e', g, _, ini, tb, rfl, L8.dk, r4, R8, g1, n4, fun H9 b9 D9 => ⟨_, rfl, ?_⟩⟩
        refine iteF (A := True) ?_
        obtain ⟨F9, T9⟩ := L8.told ne8 b9 D9
        obtain ⟨ns9, fx, fy, fz, f9, g9⟩ := id F9
        refine ⟨_, rfl, _, rfl, d, t, g, _, ini, tb, rfl, D9, T9, R8, g9, n4, n6.symm, fun H10 tabs' i1 i2 kp D10 T10 => ⟨_, rfl, ?_⟩⟩
        refine iteF (A := True) ?_
        have F10 : FlowAt H10 f g := ⟨ns9, fx, fy, fz, kp _ _ (by simp [n2, n3]) f9, kp _ _ (by simp [n4, n5]) g9⟩
        rw [List.length_append] at le8
        have le8 : ini.length + 1 ≤ max 1 (N - i) := le8
        cases ini with
        | nil =>
          obtain rfl := i2 rfl
          exact ⟨_, _, rfl, ⟨F10, D10, T10⟩, R8, by simp, by show 1 ≤ _; omega⟩
        | cons t0 tr =>
          obtain rfl := i1 (by simp)
          have le8 : tr.length + 1 + 1 ≤ max 1 (N - i) := le8
          exact ⟨_, _, rfl, ⟨F10, D10, T10⟩, R8.init, by simp, by show tr.length + 1 ≤ _; omega⟩
      · rintro σ H8 ⟨ts, v7, rfl, L8, R8, ne8, le8⟩
        exact ⟨ts, v7, v8, v9, v10, rfl, L8, R8, ne8, by omega⟩
    clear L7 RO hne q1 q2 hlc few
    rintro σ H8 ⟨ts, v7, v8, v9, v10, rfl, L8, R8, ne8, le8⟩
    obtain ⟨tb, rfl⟩ : ∃ tb, ts = [tb] := by
      cases ts with
      | nil => exact absurd rfl ne8
      | cons x r =>
        cases r with
        | nil => exact ⟨x, rfl⟩
        | cons y z =>
          have le8 : z.length + 1 + 1 ≤ 1 := le8
          omega
    obtain rfl : tb = [] := List.length_eq_zero_iff.mp (Nat.le_zero.mp (R8.each 0 tb rfl))
    obtain ⟨_, _, _, _, _, g1⟩ := id L8.fl
    refine ⟨_, rfl, fun e he => ?_⟩
    have se : Same H8 (upd H8 e (.dK [])) := Same.new he
    have L9 := L8.keep se
    refine ⟨d, e, g, _, [], [], rfl, L9.dk, ⟨[], upd_same, .nil⟩, R8, se _ _ g1, n4, fun H9 b9 D9 => ⟨true, rfl, ?_⟩⟩
    refine iteT (B := True) ?_
    obtain ⟨F9, T9⟩ := L9.told ne8 b9 D9
    obtain ⟨_, _, _, _, _, g9⟩ := id F9
    obtain ⟨dx, tp, as0, d1, _, _⟩ := id D9
    refine ⟨_, rfl, d, dx, _, rfl, d1, rfl, d, g, [[]], rfl, D9, rfl, true, by decide, ?_⟩
    refine iteT (B := True) ?_
    exact ⟨_, rfl, _, rfl, d, t, g, _, [], [], rfl, D9, T9, R8, g9, n4, n6.symm, fun H10 tabs' _ _ _ _ _ => k H10⟩
theorem ok_law (PO : ProgOk P) (T : Tx K mg) (F : Fx K) (X : Ex w K) : ∃ fd, (∀ (s : Shared) (u : Value), BindsTo s fd ⟨[u], []⟩ [("_law_script", u)]) ∧ ∀ base, FnOk P w K mg base CX0 13 (ga K "law") fd ["_law_script"] (spLaw K) := by
  obtain ⟨fd, D⟩ := F.f_law
  refine ⟨fd, ?_, fun base => D.ok sc_law (fun vs H Q E h => ?_) fun cdv A outer s H vs Q E hr h => ?_⟩
  · obtain ⟨oc, od, dV, kV, doc, pm, an, cdv, ct, osl, rfl, lk, hcd, dv, _⟩ := D.ex
    obtain rfl : dV = .none := by
      rcases dv with ⟨_, e⟩ | ⟨e, _⟩
      · exact e
      · exact absurd rfl e
    exact fun s u => .of_eq (bd_law kV doc pm an cdv ct [u] rfl)
  · obtain ⟨a, ns, rfl, _⟩ := h
    rfl
  · obtain ⟨t, a, b⟩ := law_body (base := base) PO T F X cdv A outer s H vs Q E hr h
    exact ⟨t, a.nox, b⟩
end
end Lk
set_option Elab.async false
set_option linter.all false
set_option maxRecDepth 100000
set_option maxHeartbeats 4000000
namespace Lk
open PySem PySem.Spec PyProof.Rows L2
open He (ga ma)
theorem prog_ok : ProgOk (PySem.Challenge.rw_latekinds_k75_whole_desk).prog := ⟨by kernel_rfl, by kernel_rfl⟩
end Lk
open PySem PySem.W PySem.Calls PyProof.Rows
set_option maxHeartbeats 0 in
theorem PySem.Challenge.cw_latekinds_k75_whole_desk_holds : PySem.Challenge.rw_latekinds_k75_whole_desk.Holds := by
  w_on; o_law
  refine HandSHeadRun.head_any (r := OpenLaw.row PySem.Challenge.rw_latekinds_k75_whole_desk) (q := view (OpenLaw.row PySem.Challenge.rw_latekinds_k75_whole_desk).prog [81]) (H := Lk.hk) (ob := Lk.ob) (M := 8000) (loose := Lk.nms) (d := HandSHeadRun.topDef (OpenLaw.row PySem.Challenge.rw_latekinds_k75_whole_desk).prog 81) (kwd := []) Lk.ob_eq
    (by kernel_rfl) (fun s => by kernel_rfl) Lk.run (by kernel_rfl) (by kernel_rfl) (by kernel_rfl) (by rfl) (by first | assumption | decide +kernel) (by decide +kernel) ⟨rfl, rfl, rfl, rfl, rfl, by decide +kernel⟩ ?hw ?hc
  case hw => w_witness2
  case hc =>
    refine L2.walk_ofE (l := PySem.Challenge.rw_latekinds_k75_whole_desk) (n := 63) (k := 60) (x := "_law_script") (CX := L2.CX0) rfl (by decide) (by kernel_rfl) ⟨rfl, by decide, by decide⟩ ?F (fun _ _ _ _ z => z)
    intro w mg fa h Y G hmg0
    obtain ⟨K, KX, c⟩ := Y
    have hmg : mg ("law" : PySem.Str) = some (.ref fa) := by
      have e : (HandSHeadRun.topDef (OpenLaw.row PySem.Challenge.rw_latekinds_k75_whole_desk).prog 81).name = ("law" : PySem.Str) := by kernel_rfl
      rw [← e]
      exact hmg0
    have T := Lk.tx_of KX G (Lk.says_d c)
    have e := hmg.symm.trans T.g_law
    cases e
    obtain ⟨fd, hb, ok⟩ := Lk.ok_law (P := (PySem.Challenge.rw_latekinds_k75_whole_desk).prog) (w := w) Lk.prog_ok T (Lk.fx_of (Lk.says_d c)) (Lk.ex_of c)
    exact ⟨K, fd, _, KX, hb, fun H a ns _ _ hS => ⟨a, ns, rfl, hS, fun _ => rfl⟩, fun base _ _ => (ok base).mono (by decide)⟩
