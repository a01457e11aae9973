import PyProof.Rows.All
import Wide.All
import OpenK.AllK
import Wide.FinOn
import KE.KStateDown
import KE.KExcSuper
import Lean
import HandS.ForMost
import HandS.ForExc
import HandS.ExcInit
import HandS.ExcSuper
import HandS.ExcField
import HandS.ExcIs
import HandS.IsInst
import HandS.Defaults
import HandS.Replace
import HandS.ReplaceLit
import HandS.ReplaceDef
import HandS.Head0
import HandS.Head1
import HandS.Head2
import HandS.HeadEnd
import HandS.HeadHook1
import HandS.HeadHook2
import HandS.Wide
import HandS.WideBits
import KE.GoesMore
import HandS.More
import HandS.TupAny
import HandS.Ends
import PyProof.ReprRoads
import PyProof.CallFns
import HandS.TupLe
import HandS.StrMore
import PyProof.Rows.StrPadFill
import PyProof.Rows.StrPadWhole
import KE.KIsAll
import HandS.OwnEq
import HandS.HotCalls
import HandS.Codes
import PySem.Challenge.RW_fablemill_k01_numbers
set_option Elab.async false
set_option linter.all false
set_option maxRecDepth 100000
set_option maxHeartbeats 4000000
/-! Own errors of the shape: class C(FableError): def __init__(self, f): super().__init__('..'); self.f = f -/
namespace Fx
open PySem PySem.W PySem.Calls PyProof.Rows PySem.HandSPX
/-- the text of such an __init__ -/
def xA (f : Str) (p1 p2 : Pos) : Arguments := { posonlyargs := [], args := [{ arg := "self", annotation := none, pos := p1 }, { arg := f, annotation := none, pos := p2 }], vararg := none, kwonlyargs := [], kw_defaults := [], kwarg := none, defaults := [] }
def xB (f m : Str) (q1 q2 q3 q4 q5 q6 q7 q8 q9 q10 : Pos) : List Stmt :=
  [.Expr (.Call (.Attribute (.Call (.Name "super" q1) [] [] q2) "__init__" q3) [.Constant (.str m) 0 q4] [] q5) q6,
   .Assign [.Attribute (.Name "self" q7) f q8] (.Name f q9) q10]
def xS (f : Str) : Scope := { kind := .function, names := [(PySem.Str.ofString "self", .local), (f, .local), (PySem.Str.ofString "__class__", .free), (PySem.Str.ofString "super", .globalImplicit)], isGenerator := false, isCoroutine := false, more := [] }
/-- a field's name that does not clash -/
structure FOk (f : Str) : Prop where
  ns : f ≠ "self"
  nc : f ≠ "__class__"
  nu : f ≠ "super"
  nd : (f == ("__debug__" : Str)) = false
theorem FOk.mk' {f : Str} (h1 : decide (f ≠ "self") = true) (h2 : decide (f ≠ "__class__") = true) (h3 : decide (f ≠ "super") = true) (h4 : (f == ("__debug__" : Str)) = false) : FOk f :=
  ⟨of_decide_eq_true h1, of_decide_eq_true h2, of_decide_eq_true h3, h4⟩
/-- what the written part says of the class at C, its name x, its field f -/
structure XC (K : Frag) (P : Program) (x f : Str) (C : Addr) : Prop where
  fo : FOk f
  cls : ∃ nm q N bs bm sn sub ab col dd k0 k1 k2 k3 k5, K.lookup C = some (excClassObj nm q C N bs bm true sn sub ab col dd k0 k1 k2 k3 k5 "ValueError.__new__") ∧ refsVE bm = true ∧ alongIn K "__init__" bm = some (some (.builtin "ValueError.__init__"))
  sa : findIn K (.ref C) "__setattr__" = some (some (.builtin "object.__setattr__"))
  ga : findIn K (.ref C) "__getattribute__" = some (some (.builtin "BaseException.__getattribute__"))
  gg : findIn K (.ref C) "__getattr__" = some none
  noF : findIn K (.ref C) f = some none
  kC : keepIn K (.ref C) = true
  exC : subIn K (.ref C) (.type "BaseException") = some true
  veC : subIn K (.ref C) (.type "ValueError") = some true
  tyC : typeIn K (.ref C) = some (.type "type")
  hdC : hasDictIn K C = true
  op : nsIn K cStatics "thirdparty.any" = some none
  init : ∃ (fI : Addr), findIn K (.ref C) "__init__" = some (some (.ref fI)) ∧ typeIn K (.ref fI) = some (.type "function") ∧
    ∃ (qual m : Str) (oc : Value) (od : Option Addr) (kV doc pm : Value) (an : Option Addr) (cda cc : Addr) (ct : Value) (osl : Array (Option Value)) (p1 p2 q1 q2 q3 q4 q5 q6 q7 q8 q9 q10 : Pos)
      (ccl : Value) (cdd : Option Addr) (vs : Array Value) (ccs : Array (Option Value)) (tf : Tok) (cl : Value) (cld : Option Addr) (csl : Array (Option Value)),
      K.lookup fI = some ⟨oc, od, .func (ksFn "__init__" qual (xA f p1 p2) (xB f m q1 q2 q3 q4 q5 q6 q7 q8 q9 q10) (xS f) .none kV doc pm an (.ref cda) ct cc), osl⟩ ∧ codeIn K (.ref cda) qual = true ∧
      K.lookup cda = some ⟨ccl, cdd, .fields vs, ccs⟩ ∧ vs[2]? = some (.str (P.main.file : Str) tf) ∧ K.lookup cc = some ⟨cl, cld, .cell (some (.ref C)), csl⟩ ∧ (q3.endLine == q5.line) = true
  bd : ∀ (fd : FuncData) (p1 p2 : Pos), fd.params = xA f p1 p2 → fd.defaults = .none → ∀ (u1 u2 : Value), bindArgs fd ⟨[u1, u2], []⟩ = pure [(("self" : Str), u1), (f, u2)]
  top : (P.main.scope.names.lookup ("super" : Str)).isSome = false
section
variable {f : Str} (F : FOk f)
include F
theorem look_self : (xS f).names.lookup ("self" : Str) = some .local := by simp [xS, List.lookup]
theorem look_f : (xS f).names.lookup f = some .local := by
  have h1 : (f == PySem.Str.ofString "self") = false := by simpa using F.ns
  simp [xS, List.lookup, h1]
theorem look_cls : (xS f).names.lookup ("__class__" : Str) = some .free := by
  have h1 : (("__class__" : Str) == f) = false := by simpa using (Ne.symm F.nc)
  have h2 : (("__class__" : Str) == PySem.Str.ofString "self") = false := by decide
  simp [xS, List.lookup, h1, h2]
theorem look_sup : (xS f).names.lookup ("super" : Str) = some .globalImplicit := by
  have h1 : (("super" : Str) == f) = false := by simpa using (Ne.symm F.nu)
  have h2 : (("super" : Str) == PySem.Str.ofString "self") = false := by decide
  have h3 : (("super" : Str) == PySem.Str.ofString "__class__") = false := by decide
  simp [xS, List.lookup, h1, h2, h3]
end
section
variable {prog : Program} {w : World} {A : Around} {E : Value → Shared → Prop} {h : Heap} {g : Array GenState} {d : Drawn} {t : Nat} {os : OsState}
variable {nm q : Str} {C N : Addr} {bs bm : List Value} {hdct : Bool} {sn : List Str} {sub : List Value} {ab : Bool} {col : Option Bool} {dd : Option Addr} {k0 k1 k2 k3 k5 : Option Value}
theorem boot_super : bootBuiltins ("super" : Str) = some (.type "super") := by first | boot_by_name | kernel_rfl
/-- super().__init__(..) called -/
theorem call_mw {u e t0 : Addr} {rest : List Value} {Q : Value → Shared → Prop}
    (hC : h.get? C = some (excClassObj nm q C N bs bm hdct sn sub ab col dd k0 k1 k2 k3 k5 "ValueError.__new__")) (he : h.get? e = some (excO C t0)) (hu : h.get? u = some (kxs_mw "ValueError.__init__" e)) (hrest : rest.length ≤ sizeLine)
    (hq : ∀ h' t1, (∀ b o, b ≠ e → h.get? b = some o → h'.get? b = some o) → h'.get? e = some (excO C t1) → Q .none ⟨h', g, d, t, os⟩) :
    wpAny (model prog w) A (call (.ref u) rest) Q E ⟨h, g, d, t, os⟩ := by
  refine wpAny_call (codeAny_of_tree ?_)
  show wpAny _ A.in1 (callAny (.ref u) ⟨rest, []⟩) _ _ _
  simp only [callAny]
  refine wpAny_bind (wpAny_load hu ?_)
  simp only [kxs_mw, show (Value.type "method-wrapper" == Value.type "method" || Value.type "method-wrapper" == Value.type "builtin_function_or_method" || Value.type "method-wrapper" == Value.type "method-wrapper") = true by decide, if_true]
  refine KFB.if_so (by decide) ?_
  refine wpAny_bind (ESX.check_bound F.excBase_ValueError hC he rfl ?_)
  refine wpAny_bind (wpAny_pure (wpAny_pure ?_))
  refine ⟨Code.quiet_builtin _ (by decide +kernel), codeAny_builtin F.excBase_ValueError.initEntry ?_⟩
  rw [Around.under_plainId F.excBase_ValueError.init.plain _]
  wp_walk
  refine hq _ h.objs.size (fun b o hb ho => ?_) ?_
  · rw [Heap.get?_update_other _ _ (Ne.symm hb)]
    exact Heap.get?_push_of_some _ ho
  · rw [Heap.get?_update_self _ (Heap.get?_push_of_some _ he) rfl]
    rfl
end
theorem he_sup {env : Env} {m : Str} {q1 q2 q3 q4 q5 : Pos} (hp : (q3.endLine == q5.line) = true) :
    eval (.Call (.Attribute (.Call (.Name "super" q1) [] [] q2) "__init__" q3) [.Constant (.str m) 0 q4] [] q5) env = (do
      let ov ← attributeBase (.Call (.Name "super" q1) [] [] q2) "__init__" env (eval (.Call (.Name "super" q1) [] [] q2) env)
      standAt q3.atName
      let (f, first) ← holding [ov] (getMethod ov "__init__" (do return (← importBound (.Call (.Name "super" q1) [] [] q2) env).getD true))
      callWith q5 f first (backTo q5 (starEach [.Constant (.str m) 0 q4] env)) []) := by
  rw [arm_eval_Call]
  unfold methodCall methodCallPos
  simp only [hp, Bool.or_true, if_true]
  rfl
/-- what __init__ leaves of a fresh exception at x -/
structure InitEnd (h h' : Heap) (x C dx t1 : Addr) (f : Str) (v : Value) : Prop where
  keep : ∀ b o, b ≠ x → h.get? b = some o → h'.get? b = some o
  obj : h'.get? x = some { cls := .ref C, dict := some dx, data := .fields #[.ref t1, .none, .none, .none, .bool false, .none] }
  dbig : h.objs.size ≤ dx
  dne : dx ≠ x
  ns : h'.Ns1 dx (fun y => if y = f then some v else none)
/-- a made exception -/
structure OwnMade (h h' : Heap) (e C d : Addr) (f : Str) (v : Value) : Prop where
  keep : ∀ b o, h.get? b = some o → h'.get? b = some o
  new : h.objs.size ≤ e
  obj : ∃ oe vs, h'.get? e = some oe ∧ oe.cls = .ref C ∧ oe.dict = some d ∧ oe.data = .fields vs ∧ vs[1]? = some .none
  dbig : h.objs.size ≤ d
  dne : d ≠ e
  ns : h'.Ns1 d (fun y => if y = f then some v else none)
section
variable {prog : Program} {w : World} {A : Around} {E : Value → Shared → Prop} {R : Result → Shared → Prop} {s : Shared} {K : Frag} {mg mb : Str → Option Value} {x0 f : Str} {C : Addr}
theorem one_size (v : Value) : [v].length ≤ sizeLine := by
  rw [sizeLine_eq]
  exact (by decide : 1 ≤ 16777216)
theorem fx_init (T : XC K prog x0 f C) {fI : Addr} (hfI : findIn K (.ref C) "__init__" = some (some (.ref fI))) {x t0 : Addr} {v : Value} (X : K.In s.heap) (G : s.heap.Ns mainGlobals mg) (hsu : mg "super" = none) (B : s.heap.Ns builtinsNs mb) (hsb : mb "super" = bootBuiltins "super")
    (hlim : s.heap.NoLimit) (hx : s.heap.get? x = some (excO C t0)) (hnx : K.lookup x = none) (hroom : A.depth < recursionLimit)
    (hq : ∀ h' tk dx t1, InitEnd s.heap h' x C dx t1 f v → R (.ok (.ret .none)) { s with heap := h', toks := tk }) :
    codeAny (model prog w) A (.call (.ref fI) ⟨[.ref x, v], []⟩) R s := by
  obtain ⟨fI', e1, htI, qual, m, oc, od, kV, doc, pm, an, cda, cc, ct, osl, p1, p2, q1, q2, q3, q4, q5, q6, q7, q8, q9, q10, ccl, cdd, vs, ccs, tf, cl, cld, csl, ho, hcd, hcode, hvs, hcell, hps⟩ := T.init
  rw [hfI] at e1
  cases e1
  obtain ⟨nm, q, N, bs, bm, sn, sub, ab, col, dd, k0, k1, k2, k3, k5, hC, hbm, hal⟩ := T.cls
  have hcl : clsIn K C = some { name := nm, bases := bs, mro := .ref C :: bm, ns := N, qualname := q, hasDict := true, slotNames := sn, subclasses := sub, abstract := ab, collection := col, hasDel := false } := by unfold clsIn; rw [hC] <;> rfl
  refine ks_codeAny_call_defAt (fd := ksFn "__init__" qual (xA f p1 p2) (xB f m q1 q2 q3 q4 q5 q6 q7 q8 q9 q10) (xS f) .none kV doc pm an (.ref cda) ct cc) (body := xB f m q1 q2 q3 q4 q5 q6 q7 q8 q9 q10) (binds := [("self", .ref x), (f, v)]) hroom (X _ _ ho) rfl hlim (codeRec_of X hcd) rfl
    (BindsTo.of_eq (T.bd _ p1 p2 rfl rfl _ _)) ?_ ?_ (fun h₁ hns k => ?_)
  · intro y hy
    simp only [xS, List.mem_cons, List.not_mem_nil, or_false] at hy
    rcases hy with rfl | rfl | rfl | rfl <;> simp
  · intro y hy
    simp only [List.mem_cons, List.not_mem_nil, or_false] at hy
    rcases hy with rfl | rfl
    · exact look_self T.fo
    · exact look_f T.fo
  · have X1 : K.In h₁ := X.keeps k
    have hx1 := k _ _ hx
    have hC1 := X1 _ _ hC
    refine ks_wpAt_execs_cons (ks_wpAt_Expr_any (ks_wpAt_MethodCall ?_ (he_sup hps)))
    refine ks_wpAt_super_base (look_sup T.fo) (look_cls T.fo) (by decide) rfl (X1 _ _ ho) rfl rfl rfl (X1 _ _ hcode) rfl hvs (by simp) T.top ?_
    refine ks_loadName_global rfl (look_sup T.fo) (loadGlobal_builtin (G.keeps k) hsu (B.keeps k) (hsb.trans boot_super) ⟨rfl, ?_⟩)
    refine wpAny_loadName_free rfl (look_cls T.fo) rfl ⟨_, X1 _ _ hcell, rfl⟩ ?_
    refine wpAny_loadName_local rfl (look_self T.fo) hns (v := .ref x) ?_ ?_
    · have h1 : (("self" : Str) == f) = false := by simpa using (Ne.symm T.fo.ns)
      simp [List.lookup, h1]
    refine ks_wpAny_isType_cls hC1 rfl ⟨rfl, ?_⟩
    have hsub : mroIn K C (.ref C) = some true := by
      unfold mroIn
      rw [hcl]
      simp
    refine ks_wpAny_call_super hC1 rfl hx1 rfl (fun c e => by cases e) (looks_mroIn X1 hsub) (fun h2 hso k2 => ?_)
    have X2 : K.In h2 := X1.keeps k2
    have hx2 := k2 _ _ hx1
    have hxC : x ≠ C := fun e => by
      rw [e, hC1] at hx1
      cases hx1
    have I2 : InstAt h2 x (excO C t0) C none := ⟨hx2, rfl, rfl, trivial⟩
    refine kxs_getMethod kxs_ValueError hso (looks_opaque X2 T.op) (l₀ := .ref C :: bm) ?_ (ESX.drop_own C bm) X2 hal (I2.type.andThen (looks_subIn X2 T.veC)) hxC (by decide) ?_
    · exact fun A Q E s k q => wpAny_bind ((looks_clsIn X2 hcl) A _ E s k (wpAny_pure q))
    have kp : ∀ b o, h2.get? b = some o → (h2.push (kxs_mw "ValueError.__init__" x)).get? b = some o := fun b o e => Heap.get?_push_of_some _ e
    have hu : (h2.push (kxs_mw "ValueError.__init__" x)).get? h2.objs.size = some (kxs_mw "ValueError.__init__" x) := Heap.get?_push_at rfl rfl
    refine kxs_callWith (i := "ValueError.__init__") (x := x) rfl (evalArgs_plain (spliced_cons (Constant_str (k := 0) (pos := q4) (spliced_nil ⟨hu, ?_⟩))))
    refine call_mw (kp _ _ (X2 _ _ hC)) (kp _ _ hx2) hu (one_size _) (fun h3 t1 k3 hx3 => ?_)
    have kk : ∀ b o, b ≠ x → h₁.get? b = some o → h3.get? b = some o := fun b o hb e => k3 b o hb (kp _ _ (k2 _ _ e))
    have X3 : K.In h3 := fun a o e => kk a o (fun z => by rw [z, hnx] at e; cases e) (X1 a o e)
    have nL : s.heap.objs.size ≠ x := Nat.ne_of_gt (Heap.lt_size hx)
    have hns3 : h3.Ns s.heap.objs.size (fun y => [(("self" : Str), Value.ref x), (f, v)].reverse.lookup y) := by
      obtain ⟨oL, es, ep, hL, r⟩ := hns
      exact ⟨oL, es, ep, kk _ _ nL hL, r⟩
    have hfs : (f == ("self" : Str)) = false := by simpa using T.fo.ns
    have hsf : (("self" : Str) == f) = false := by simpa using (Ne.symm T.fo.ns)
    show PySem.wpAt _ _ _ (execs _ _) _ _ _
    refine ks_wpAt_execs_cons (ks_wpAt_Assign_Attr (PySem.wpAt_of_wpAny ?_))
    refine wpAny_Name (wpAny_loadName_local rfl (look_f T.fo) hns3 (v := v) (by simp [List.lookup]) ?_) T.fo.nd
    refine wpAny_Name (wpAny_loadName_local rfl (look_self T.fo) hns3 (v := .ref x) (by simp [List.lookup, hsf]) ?_) (by decide)
    refine set_plain X3 (ox := excO C t1) (od := none) ⟨hx3, rfl, rfl, trivial⟩ T.sa ?_
    refine exc_osa X3 hx3 hcl (show refsVE (.ref C :: bm) = true from hbm) rfl T.noF (fun h4 tk4 dx k4 dn dne hx4 hn4 => ?_)
    show PySem.wpAt _ _ _ (execs _ _) _ _ _
    refine PySem.wpAt_of_wpAny (wpAny_execs_nil (hq h4 tk4 dx t1 ⟨fun b o hb e => k4 b o hb (kk b o hb (k b o e)), hx4, ?_, dne, hn4⟩))
    exact Nat.le_of_lt (Nat.lt_of_lt_of_le (show s.heap.objs.size < h3.objs.size from hns3.lt) dn)
theorem fx_made (T : XC K prog x0 f C) {v : Value} (X : K.In s.heap) (G : s.heap.Ns mainGlobals mg) (hsu : mg "super" = none) (B : s.heap.Ns builtinsNs mb) (hsb : mb "super" = bootBuiltins "super") (hlim : s.heap.NoLimit) (hroom : A.depth + 1 < recursionLimit)
    (hq : ∀ h' tk e d, OwnMade s.heap h' e C d f v → R (.ok (.ret (.ref e))) { s with heap := h', toks := tk }) :
    codeAny (model prog w) A (.call (.ref C) ⟨[v], []⟩) R s := by
  obtain ⟨fI, hfI, htI, _⟩ := T.init
  obtain ⟨nm, q, N, bs, bm, sn, sub, ab, col, dd, k0, k1, k2, k3, k5, hC, hbm, hal⟩ := T.cls
  obtain ⟨hp, g, dr, tk, os⟩ := s
  have k : ∀ b o, hp.get? b = some o → ((hp.push (kdv_tup [v])).push (excO C hp.objs.size)).get? b = some o := fun b o e => Heap.get?_push_of_some _ (Heap.get?_push_of_some _ e)
  have hget : ((hp.push (kdv_tup [v])).push (excO C hp.objs.size)).get? (hp.objs.size + 1) = some (excO C hp.objs.size) := by heap_get
  have hnx : K.lookup (hp.objs.size + 1) = none := by
    cases e : K.lookup (hp.objs.size + 1) with
    | none => rfl
    | some o =>
      have z : hp.get? (hp.objs.size + 1) = some o := X _ _ e
      exact absurd (Nat.lt_of_succ_lt (Heap.lt_size z)) (Nat.lt_irrefl _)
  refine call_own F.excBase_ValueError (fun X => refsVE_contains X bm hbm) (X _ _ hC) (looks_findIn X hfI) (fun self => bind_fn X self htI) (one_size v) ?_
  refine fx_init (s := ⟨(hp.push (kdv_tup [v])).push (excO C hp.objs.size), g, dr, tk, os⟩) T hfI (X.keeps k) (G.keeps k) hsu (B.keeps k) hsb (hlim.keeps k) hget hnx ?_ fun h' tk' dx t1 ⟨k', hx, dn, dne, hns⟩ => ?_
  · show A.depth + 1 < recursionLimit
    exact hroom
  · have old : ∀ b o, hp.get? b = some o → h'.get? b = some o := fun b o e => k' b o (Nat.ne_of_lt (Nat.lt_succ_of_lt (Heap.lt_size e))) (k b o e)
    have z : hp.objs.size + 1 + 1 ≤ dx := by
      first
        | (simpa only [Heap.size_push] using dn)
        | exact dn
        | (have q := dn; rw [Heap.size_push, Heap.size_push] at q; exact q)
    exact ⟨rfl, hq h' tk' (hp.objs.size + 1) dx ⟨old, Nat.le_succ _, ⟨_, _, hx, rfl, rfl, rfl, rfl⟩, Nat.le_trans (Nat.le_trans (Nat.le_succ _) (Nat.le_succ _)) z, dne, hns⟩⟩
end
end Fx
namespace Fx
open PySem PySem.Spec PyProof.Rows L2
theorem relO_fx {f : Str} {v : V} {v' : Value} (r : RelV v v') (y : Str) : RelO (List.lookup y [(f, v)]) (if y = f then some v' else none) := by
  by_cases hw : y = f
  · subst hw
    rw [if_pos rfl]
    have q : List.lookup y [(y, v)] = some v := by simp [List.lookup]
    rw [q]
    exact r
  · rw [if_neg hw]
    have qw : (y == f) = false := by simpa using hw
    have q2 : List.lookup y [(f, v)] = none := by simp [List.lookup, qw]
    rw [q2]
    trivial
section
variable {X : Cx} {C : Addr} {x0 f : Str}
/-- C(e) -/
def tMkFx (C : Addr) (f : Str) (ta : TA) : L2.St → Hp → XK → Prop := fun σ H Q => ta σ H fun vs H1 => ∃ v, vs = [v] ∧ ∀ d, H1 d = none → Q (.ref C) (some d) (upd H1 d (.xd [(f, v)]))
theorem pmk_fx {a : Expr} {ta : TA} {p pos : Pos} {k : Nat} (T : XC X.K X.prog x0 f C) (gC : X.mg x0 = some (.ref C)) (hsu : X.mg "super" = none) (hr : Room k X.A) (ha : PA X [a] ta) (hg : Gl X x0 := by rfl) (hdb : (x0 == ("__debug__" : Str)) = false := by decide)
    (he : starEach (a :: []) X.env = (false, eval a X.env) :: starEach [] X.env := by rfl) (hpl : (backTo pos (starEach [] X.env)).any (·.1) = false := by rfl) :
    PMk X (.Call (.Name x0 p) [a] [] pos) (tMkFx C f ta) := by
  intro pins s σ H Q I h
  refine wpAny_Call_Name_kw (ld_glob I hg gC ?_ hdb)
  refine PySem.W.callWith_K (h₀ := X.base) I.ok.mod.kin T.kC (thn (ha.run pos pins s σ H _ I h) fun us s1 hh => ?_) he hpl
  obtain ⟨vs, H1, I1, r1, v, ev, q1⟩ := hh
  subst ev
  refine ⟨I1.kIn, ?_⟩
  cases r1 with
  | cons rv rn =>
    rename_i v' us'
    cases rn
    show wpAny _ _ (call (.ref C) [v']) _ _ _
    have hlim := I1.nolimit
    obtain ⟨mb, hb1, hb2⟩ := I1.mod.blt
    have G := I1.mod.glob.keeps I1.bk
    have B := hb1.keeps I1.bk
    obtain ⟨hp, g, dr, tk, os⟩ := s1
    refine wpAny_call (fx_made T I1.kIn G hsu B (hb2 _ (by decide)) hlim (by have := hr.dp; omega) fun h' tk' e d M => ?_)
    show MkP X pins σ Q (.ref e) ⟨h', g, dr, tk', os⟩
    obtain ⟨oe, fv, hoe, hc, hd, hdat, h1⟩ := M.obj
    have hns := M.ns
    obtain ⟨G', g1, g2⟩ := restrict h' fun b => decide (b ≠ e)
    have gk : ∀ b, b ≠ e → G'.get? b = h'.get? b := fun b hb => g1 b (decide_eq_true hb)
    have ge : G'.get? e = none := g2 e (by simp)
    have old : ∀ b o, hp.get? b = some o → G'.get? b = some o := fun b o q => (gk b (Nat.ne_of_lt (Nat.lt_of_lt_of_le (Heap.lt_size q) M.new))).trans (M.keep b o q)
    have ob : ObjOk X.prog X.w (upd H1 d (.xd [(f, v)])) G' d (.xd [(f, v)]) :=
      ⟨_, hns.at (fun o q => (gk d M.dne).trans q), fun y => relO_fx rv y⟩
    have J : Inv X pins σ (upd H1 d (.xd [(f, v)])) ⟨G', g, dr, tk', os⟩ := I1.laid (t' := tk') old M.dbig ob
    refine ⟨e, oe, fv, ⟨G', g, dr, tk', os⟩, _, .ref C, some d, rfl, J, fun b o q => ?_, ge, hoe, ⟨hc, hd⟩, hdat, h1, ?_, rfl, I1.bare, raises_own T.exC T.tyC, q1 d (I1.hok.fresh M.dbig)⟩
    · by_cases hb : b = e
      · have q' : G'.get? b = some o := q
        rw [hb, ge] at q'; cases q'
      · exact (gk b hb).symm.trans q
    · rw [upd_ne (Ne.symm M.dne)]
      exact I1.hok.fresh M.new
/-- raise C(e) -/
def tRaiseFx (C : Addr) (f : Str) (W : WX) (ta : TA) : TS := fun _ σ H => tMkFx C f ta σ H fun cls d H' => W cls d σ H'
theorem ps_raiseFx {a : Expr} {ta : TA} {W : WX} {p pos pos2 : Pos} {k : Nat} (hc : X.calm = true) (T : XC X.K X.prog x0 f C) (gC : X.mg x0 = some (.ref C)) (hsu : X.mg "super" = none) (hr : Room k X.A) (tk : Takes X W) (ha : PA X [a] ta) (hg : Gl X x0 := by rfl) (hdb : (x0 == ("__debug__" : Str)) = false := by decide)
    (he : starEach (a :: []) X.env = (false, eval a X.env) :: starEach [] X.env := by rfl) (hpl : (backTo pos (starEach [] X.env)).any (·.1) = false := by rfl) :
    PS X (.Raise (some (.Call (.Name x0 p) [a] [] pos)) none pos2) (tRaiseFx C f W ta) := ps_raise hc tk (pmk_fx T gC hsu hr ha hg hdb he hpl)
/-- e.f, e the exception that the suite holds -/
theorem XC.xf (T : XC X.K X.prog x0 f C) : XfC X.K C := ⟨T.ga, T.gg, T.exC, T.hdC⟩
end
end Fx
namespace PySem.W
open PySem PySem.Spec PySem.Calls PyProof.Rows
section
variable {prog : Program} {w : World} {A : Around} {E : Value → Shared → Prop} {s : Shared} {K : Frag} {x D : Addr} {ox : Obj} {od : Option Obj}
theorem fx_findObj {C : Addr} {name : Str} {a g : Value} (hc : (clsIn K C).isSome = true) (ha : findIn K (.ref C) name = some (some a)) (hg : specialIn K a "__get__" = some (some g)) (ht : takesIn K a = some true) : findObj K C od name = some (.bind g a) := by
  obtain ⟨cd, hc⟩ := Option.isSome_iff_exists.mp hc
  unfold findObj
  rw [hc, Option.bind_some, ha, Option.bind_some]
  simp [hg, ht]
theorem fx_class {Q : Option Value → Shared → Prop} (hga : findIn K (.ref D) "__getattribute__" = some (some (.builtin "BaseException.__getattribute__"))) (hgt : findIn K (.ref D) "__getattr__" = some none) (hsub : subIn K (.ref D) (.type "BaseException") = some true)
    (hdct : hasDictIn K D = true) (ha : findIn K (.ref D) "__class__" = some (some (.builtin "object.__class__")))
    (hn : specialIn K (.builtin "object.__class__") "__get__" = some (some (.builtin "getset_descriptor.__get__"))) (htk : takesIn K (.builtin "object.__class__") = some true) (hm : mroIn K D (.type "object") = some true)
    (X : K.In s.heap) (I : InstAt s.heap x ox D od) (h : Q (some (.ref D)) { s with toks := s.toks + 1 }) : wpAny (model prog w) A (getAttr? (.ref x) "__class__") Q E s := by
  have hf : findObj K D od "__class__" = some (.bind (.builtin "getset_descriptor.__get__") (.builtin "object.__class__")) := fx_findObj (by obtain ⟨cd, hc, _⟩ := any_some hdct; rw [hc]; rfl) ha hn htk
  obtain ⟨hp, g, d, t, os⟩ := s
  have L0 := I.type (M := model prog w)
  have L1 := looks_findIn (M := model prog w) X hga
  have L2 := looks_findIn (M := model prog w) X hgt
  have L3 := looks_find (M := model prog w) X I hf
  have sub : Looks (model prog w) hp (isInstance (.ref x) (.type "BaseException")) true := L0.andThen (looks_subIn X hsub)
  have hx0 : (false && onTheHeap (Value.builtin "BaseException.__getattribute__")) = false := rfl
  have hx2 : (Value.builtin "BaseException.__getattribute__" == Value.builtin "object.__getattribute__") = false := by decide +kernel
  have hx1 : (onTheHeap (Value.ref D) && Value.builtin "BaseException.__getattribute__" == Value.builtin "object.__getattribute__") = false := by rw [hx2]; rfl
  unfold getAttr? getAttrBy? getAttrBy
  refine wpAny_bind (wpAny_mkText (wpAny_bind (wpAny_attempt (wpAny_holding (wpAny_bind (L0.at (wpAny_bind (L1.at ?_))))))))
  show wpAny _ _ (if (onTheHeap (Value.ref D) && Value.builtin "BaseException.__getattribute__" == Value.builtin "object.__getattribute__") = true then _ else _) _ _ _
  rw [hx1, if_neg Bool.false_ne_true]
  unfold getAttrByItsOwn hookBefore
  refine wpAny_bind ?_
  rw [if_pos (show onTheHeap (Value.ref D) = true from rfl)]
  refine L2.at ?_
  refine wpAny_bind (wpAny_attempt (wpAny_holding ?_))
  unfold callGetattribute
  rw [hx0, if_neg Bool.false_ne_true]
  unfold boundAndCalled
  rw [PySem.F.excAttr_ValueError.ga.bind (.ref x)]
  refine wpAny_bind (wpAny_pure ?_)
  show wpAny _ _ (call (.builtin "BaseException.__getattribute__") [.ref x, .str "__class__" t]) _ _ _
  refine wpAny_call (codeAny_call_builtin PySem.F.excAttr_ValueError.ga.plain PySem.F.entry_bexc_ga ?_)
  refine @check_slot (model prog w) _ _ ⟨hp, g, d, t + 1, os⟩ "BaseException.__getattribute__" "BaseException" "__getattribute__" (.ref x) [.str "__class__" t] [] _ (by decide +kernel) (by decide +kernel) sub (PySem.F.args_bexc_ga (.ref x) (.str "__class__" t)) ?_
  unfold Builtin.«object.__getattribute__»
  refine wpAny_bind (wpAny_of_eq (a := ((Value.ref x : Value), [Value.str "__class__" t])) (by first | rfl | (simp only [slotArgs]; rfl)) ?_)
  refine wpAny_bind (wpAny_pure (wpAny_bind (L0.at (wpAny_bind (L3.at ?_)))))
  show wpAny _ _ (holding [Value.builtin "object.__class__"] (call (.builtin "getset_descriptor.__get__") [.builtin "object.__class__", .ref x, .ref D]) >>= ret) _ _ _
  refine wpAny_bind (wpAny_holding (wpAny_call (class_get (s := ⟨hp, g, d, t + 1, os⟩) (ox := ox) (od := od) X I hm ?_)))
  refine wpAny_pure ?_
  show wpAny _ _ (handedOut (.ref D)) _ _ _
  rw [handedOut_of (v := .ref D) rfl]
  first
    | exact wpAny_pure (wpAny_pure h)
    | exact wpAny_pure h
    | exact wpAny_pure (wpAny_bind (wpAny_pure (wpAny_pure h)))
theorem fx_kitx (hga : findIn K (.ref D) "__getattribute__" = some (some (.builtin "BaseException.__getattribute__"))) (hgt : findIn K (.ref D) "__getattr__" = some none) (hsub : subIn K (.ref D) (.type "BaseException") = some true) (hdct : hasDictIn K D = true) (ha : findIn K (.ref D) "__class__" = some (some (.builtin "object.__class__")))
    (hn : specialIn K (.builtin "object.__class__") "__get__" = some (some (.builtin "getset_descriptor.__get__"))) (htk : takesIn K (.builtin "object.__class__") = some true) (hm : mroIn K D (.type "object") = some true) :
    KitX K (.ref x) (.ref D) (fun h => ∃ od, InstAt h x ox D od) where
  ty := fun _ _ _ ⟨_, I⟩ => I.type
  it := fun _ _ X _ => by
    obtain ⟨cdD, hcD, _⟩ := any_some hdct
    unfold clsIn at hcD
    split at hcD
    · rename_i c' d' cd' sl' ho
      intro A' Q' E' s' k q
      unfold isType loadHead
      exact wpAny_bind (wpAny_loadPart (k _ _ (X _ _ ho)) (wpAny_pure q))
    · cases hcD
  ne := fun h tp dd its n sl X htp => by
    obtain ⟨cdD, hcD, _⟩ := any_some hdct
    refine Bool.eq_false_iff.mpr fun q => ?_
    have e : D = tp := Value.ref.inj (beq_iff_eq.mp q)
    subst e
    unfold clsIn at hcD
    split at hcD
    · rename_i c' d' cd' sl' ho
      have z := (X _ _ ho).symm.trans htp
      cases z
    · cases hcD
  ca := fun X ⟨_, I⟩ k => fx_class hga hgt hsub hdct ha hn htk hm X I k
end
end PySem.W
namespace Fx
open PySem PySem.Spec PyProof.Rows L2
/-- isinstance(e, c), e the exception that the suite holds, with its dict -/
theorem call_isX {X : Cx} {a D dd : Addr} {oe : Obj} {pn : List (Addr × Obj)} {fs : List (Str × V)} (C : ExcC X.K D) (hz : Zc (.ref D) (some dd) oe) (hf : ∃ vs, oe.data = .fields vs) :
    CallR (X.suite a ((a, oe) :: pn)) (.builtin "isinstance") (fun xs H Q => H dd = some (.xd fs) ∧ rIsE X.K D a xs H Q) := by
  intro pins s σ H xs us Q I r h
  obtain ⟨hdd, c, cv, b, rfl, hcv, e, q⟩ := h
  cases r with
  | cons rx rr =>
    cases rr with
    | cons rt rr =>
      cases rr
      cases rx
      have ec := hcv _ rt
      subst ec
      obtain ⟨hget, _⟩ := I.pin (a, oe) (List.mem_append.mpr (.inl List.mem_cons_self))
      obtain ⟨vs, hv⟩ := hf
      have hx : ObjOk X.prog X.w H s.heap dd (.xd fs) := I.hok dd _ hdd
      obtain ⟨mA, ⟨od, es, ep, ho, hrest⟩, hr⟩ := hx
      have J : PySem.W.InstAt s.heap a oe D (some od) := ⟨hget, hz.1, by unfold PySem.W.notCls; rw [hv] <;> rfl, by rw [hz.2]; exact ho⟩
      exact PySem.W.kia_one (PySem.W.fx_kitx C.hg C.hk C.hs C.hd C.ha C.hn C.ht C.hm) I.kIn ⟨_, J⟩ e (fun z => nomatch z) fun tk => ⟨.bl b, H, I.kept (t' := tk) fun _ _ z => z, rfl, q⟩
end Fx
namespace Fx
open PySem PySem.Spec PyProof.Rows L2
def clsVal : V → Option Value
  | .ref C => some (.ref C)
  | .ty n => some (.type n)
  | _ => none
/-- isinstance(e, c) in an except suite, e the exception that it holds: its class cls, its dict d -/
def rIsY (K : PySem.W.Frag) (a : Addr) (cls : Value) (d : Option Addr) : List V → Hp → VK → Prop := fun xs H Q => ∃ c, xs = [.ref a, c] ∧ ∃ D, cls = .ref D ∧ ∃ dd, d = some dd ∧ (∃ fs, H dd = some (.xd fs)) ∧ ExcC K D ∧ ∃ cv, clsVal c = some cv ∧ ∃ b, PySem.W.kitOne K (.ref D) cv = some b ∧ Q (.bl b) H
theorem call_isY {X : Cx} {a : Addr} {oe : Obj} {cls : Value} {d : Option Addr} {pn : List (Addr × Obj)} (hz : Zc cls d oe) (hf : ∃ vs, oe.data = .fields vs) :
    CallR (X.suite a ((a, oe) :: pn)) (.builtin "isinstance") (rIsY X.K a cls d) := by
  intro pins s σ H xs us Q I r h
  obtain ⟨c, e1, D, e2, dd, e3, ⟨fs, hfs⟩, C, cv, hcv, b, hb, q⟩ := h
  subst e1 e2 e3
  refine call_isX (fs := fs) C hz hf pins s σ H _ us Q I r ⟨hfs, c, cv, b, rfl, fun u ru => ?_, hb, q⟩
  cases c with
  | ref C2 => cases hcv; exact ru
  | ty n => cases hcv; exact ru
  | _ => cases hcv
theorem XC.xfc {K : PySem.W.Frag} {P : Program} {x f : Str} {C : Addr} (T : XC K P x f C) : XfC K C := ⟨T.ga, T.gg, T.exC, T.hdC⟩
end Fx
/-! The head's facts: defs, errors' classes, any further facts as tests of the written part -/
namespace FxH
open PySem PySem.Spec PyProof.Rows L2 He
def asR (g : Addr → Option Obj) : Nat → List Addr
  | 0 => [mainGlobals, cStatics]
  | n + 1 => growD g (asR g n)
abbrev Fct := PySem.W.Frag → Bool
/-- an error's class: its name, its field, its __init__ -/
structure InD where
  x : Str
  f : Str
  qual : Str
  st : Stmt
abbrev FnX : Type := Option (Str × Str × Arguments × FuncBody × Scope × Addr × List Str × Value × Addr)
def fnXo (K : PySem.W.Frag) (x : Str) : FnX := match K.lookup (ma K (ga K x) "__init__") with
  | some ⟨_, _, .func fd, _⟩ => some (fd.name, fd.qualname, fd.params, fd.body, fd.scope, fd.globals, fd.closure.map (·.1), fd.defaults, fd.builtins)
  | _ => none
def InD.val (d : InD) : FnX := some ("__init__", d.qual, defArgs d.st, .stmts (defBody d.st), defScope d.st, mainGlobals, ["__class__"], .none, builtinsNs)
def clsB (K : PySem.W.Frag) (C : Addr) : Bool := match K.lookup C with
  | some ⟨.type "type", _, .cls cd, sl⟩ => (match cd.mro, sl.toList with
    | .ref C' :: bm, [_, _, _, _, some (.builtin n), _] => C' == C && (n == "ValueError.__new__" && (!cd.hasDel && (cd.hasDict && (PySem.HandSPX.refsVE bm && decide (PySem.W.alongIn K "__init__" bm = some (some (.builtin "ValueError.__init__")))))))
    | _, _ => false)
  | _ => false
theorem clsB_ok {K : PySem.W.Frag} {C : Addr} (q : clsB K C = true) : ∃ nm q N bs bm sn sub ab col dd k0 k1 k2 k3 k5, K.lookup C = some (excClassObj nm q C N bs bm true sn sub ab col dd k0 k1 k2 k3 k5 "ValueError.__new__") ∧ PySem.HandSPX.refsVE bm = true ∧ PySem.W.alongIn K "__init__" bm = some (some (.builtin "ValueError.__init__")) := by
  unfold clsB at q
  split at q
  · rename_i dd cd sl ho
    split at q
    · rename_i C' bm k0 k1 k2 k3 n k5 hm hs
      simp only [Bool.and_eq_true, beq_iff_eq, Bool.not_eq_true', decide_eq_true_eq] at q
      obtain ⟨rfl, rfl, hdel, hdct, ht, hal⟩ := q
      obtain ⟨nm, bs, mro, ns, qn, hd, sn, sub, ab, col, del⟩ := cd
      dsimp only at hm hdel hdct
      subst hm hdel hdct
      have hsl : sl = #[k0, k1, k2, k3, some (.builtin "ValueError.__new__"), k5] := by
        obtain ⟨l⟩ := sl
        simp only at hs
        rw [hs]
      subst hsl
      exact ⟨nm, qn, ns, bs, bm, sn, sub, ab, col, dd, k0, k1, k2, k3, k5, ho, ht, hal⟩
    · cases q
  · cases q
/-- the cell and the code of the __init__ -/
def iniB (K : PySem.W.Frag) (C fI : Addr) (qual file : Str) : Bool := match K.lookup fI with
  | some ⟨_, _, .func fd, _⟩ => (match fd.closure, fd.code with
    | [(_, cc)], .ref cda => PySem.W.codeIn K (.ref cda) qual && ((match K.lookup cda with
        | some ⟨_, _, .fields vs, _⟩ => (match (vs[2]? : Option Value) with
          | some (Value.str n _) => decide (n = file)
          | _ => false)
        | _ => false) && (match K.lookup cc with
        | some ⟨_, _, .cell (some (.ref D)), _⟩ => decide (D = C)
        | _ => false))
    | _, _ => false)
  | _ => false
def InD.ok (file : Str) (K : PySem.W.Frag) (d : InD) : Bool :=
  let C := ga K d.x
  let fI := ma K C "__init__"
  eqO (PySem.W.nsIn K mainGlobals d.x) (some (some (.ref C))) && (clsB K C && (eqO (PySem.W.findIn K (.ref C) "__setattr__") (some (some (.builtin "object.__setattr__"))) &&
  (eqO (PySem.W.findIn K (.ref C) "__getattribute__") (some (some (.builtin "BaseException.__getattribute__"))) && (eqO (PySem.W.findIn K (.ref C) "__getattr__") (some none) && (eqO (PySem.W.findIn K (.ref C) d.f) (some none) &&
  (PySem.W.keepIn K (.ref C) && (decide (PySem.W.subIn K (.ref C) (.type "BaseException") = some true) && (decide (PySem.W.subIn K (.ref C) (.type "ValueError") = some true) && (decide (PySem.W.typeIn K (.ref C) = some (.type "type")) &&
  (PySem.W.hasDictIn K C && (eqO (PySem.W.nsIn K cStatics "thirdparty.any") (some none) && (eqO (PySem.W.findIn K (.ref C) "__init__") (some (some (.ref fI))) && (decide (PySem.W.typeIn K (.ref fI) = some (.type "function")) && iniB K C fI d.qual file)))))))))))))
/-- what isinstance asks of an error's class -/
def excB (K : PySem.W.Frag) (x : Str) : Bool :=
  let C := ga K x
  eqO (PySem.W.findIn K (.ref C) "__getattribute__") (some (some (.builtin "BaseException.__getattribute__"))) && (eqO (PySem.W.findIn K (.ref C) "__getattr__") (some none) && (decide (PySem.W.subIn K (.ref C) (.type "BaseException") = some true) &&
  (PySem.W.hasDictIn K C && (eqO (PySem.W.findIn K (.ref C) "__class__") (some (some (.builtin "object.__class__"))) && (eqO (PySem.W.specialIn K (.builtin "object.__class__") "__get__") (some (some (.builtin "getset_descriptor.__get__"))) &&
  (decide (PySem.W.takesIn K (.builtin "object.__class__") = some true) && decide (PySem.W.mroIn K C (.type "object") = some true)))))))
theorem excB_ok {K : PySem.W.Frag} {x : Str} (h : excB K x = true) : ExcC K (ga K x) := by
  obtain ⟨h1, h⟩ := ba h
  obtain ⟨h2, h⟩ := ba h
  obtain ⟨h3, h⟩ := ba h
  obtain ⟨h4, h⟩ := ba h
  obtain ⟨h5, h⟩ := ba h
  obtain ⟨h6, h⟩ := ba h
  obtain ⟨h7, h8⟩ := ba h
  exact ⟨eqO_ok h1, eqO_ok h2, of_decide_eq_true h3, h4, eqO_ok h5, eqO_ok h6, of_decide_eq_true h7, of_decide_eq_true h8⟩
/-- the class's facts, from the hook -/
theorem InD.xc {P : Program} {K : PySem.W.Frag} {d : InD} {m : Str} {p1 p2 q1 q2 q3 q4 q5 q6 q7 q8 q9 q10 : Pos} (e : fnXo K d.x = d.val) (c : d.ok (P.main.file : Str) K = true) (fo : Fx.FOk d.f)
    (hA : defArgs d.st = Fx.xA d.f p1 p2) (hB : defBody d.st = Fx.xB d.f m q1 q2 q3 q4 q5 q6 q7 q8 q9 q10) (hS : defScope d.st = Fx.xS d.f) (hp : (q3.endLine == q5.line) = true)
    (bd : ∀ (fd : FuncData) (p1 p2 : Pos), fd.params = Fx.xA d.f p1 p2 → fd.defaults = .none → ∀ (u1 u2 : Value), bindArgs fd ⟨[u1, u2], []⟩ = pure [(("self" : Str), u1), (d.f, u2)])
    (top : (P.main.scope.names.lookup ("super" : Str)).isSome = false) : Fx.XC K P d.x d.f (ga K d.x) := by
  obtain ⟨c0, c⟩ := ba c
  obtain ⟨c1, c⟩ := ba c
  obtain ⟨c2, c⟩ := ba c
  obtain ⟨c3, c⟩ := ba c
  obtain ⟨c4, c⟩ := ba c
  obtain ⟨c5, c⟩ := ba c
  obtain ⟨c6, c⟩ := ba c
  obtain ⟨c7, c⟩ := ba c
  obtain ⟨c8, c⟩ := ba c
  obtain ⟨c9, c⟩ := ba c
  obtain ⟨c10, c⟩ := ba c
  obtain ⟨c11, c⟩ := ba c
  obtain ⟨c12, c⟩ := ba c
  obtain ⟨c13, c14⟩ := ba c
  refine ⟨fo, clsB_ok c1, eqO_ok c2, eqO_ok c3, eqO_ok c4, eqO_ok c5, c6, of_decide_eq_true c7, of_decide_eq_true c8, of_decide_eq_true c9, c10, eqO_ok c11, ⟨_, eqO_ok c12, of_decide_eq_true c13, ?_⟩, bd, top⟩
  unfold iniB at c14
  unfold fnXo at e
  cases q : K.lookup (ma K (ga K d.x) "__init__") with
  | none =>
    rw [q] at c14
    cases c14
  | some o =>
    obtain ⟨oc, od, dt, osl⟩ := o
    rw [q] at c14 e
    cases dt with
    | func fd =>
      obtain ⟨n1, n2, n3, n4, n5, n6, n7, n8, n9, n10, n11, n12, n13, n14, n15⟩ := fd
      have e2 : (some (n1, n2, n3, n4, n5, n6, n7.map (·.1), n8, n15) : FnX) = some (("__init__" : Str), d.qual, defArgs d.st, FuncBody.stmts (defBody d.st), defScope d.st, mainGlobals, [("__class__" : Str)], Value.none, builtinsNs) := e
      simp only [Option.some.injEq, Prod.mk.injEq] at e2
      obtain ⟨h1, h2, h3, h4, h5, h6, h7, h8, h9⟩ := e2
      subst h1 h2 h3 h4 h5 h6 h8 h9
      dsimp only at c14
      cases n7 with
      | nil => cases h7
      | cons a n7 =>
        cases n7 with
        | cons b n7 =>
          have z := congrArg List.length h7
          simp at z
        | nil =>
          obtain ⟨nm, cc⟩ := a
          have h7' : nm = ("__class__" : Str) := by
            have z := List.cons.inj h7
            exact z.1
          subst h7'
          cases n13 with
          | ref cda =>
            dsimp only at c14
            obtain ⟨d1, d2⟩ := ba c14
            obtain ⟨d3, d4⟩ := ba d2
            split at d3
            · rename_i ccl cdd vs ccs hl
              split at d3
              · rename_i n tf hvs
                have en : n = (P.main.file : Str) := of_decide_eq_true d3
                subst en
                split at d4
                · rename_i cl cld D csl hcell
                  have eD : D = ga K d.x := of_decide_eq_true d4
                  subst eD
                  refine ⟨d.qual, m, oc, od, n9, n10, n11, n12, cda, cc, n14, osl, p1, p2, q1, q2, q3, q4, q5, q6, q7, q8, q9, q10, ccl, cdd, vs, ccs, tf, cl, cld, csl, ?_, d1, hl, hvs, hcell, hp⟩
                  rw [hA, hB, hS]
                · cases d4
              · cases d3
            · cases d3
          | _ => cases c14
    | _ => cases c14
/-! ### the Hook -/
abbrev AlX : Type := Bool × List FnW × List FnX
def obsX (file : Str) (fa : List Fct) (fn : List DefD) (fi : List InD) (K : PySem.W.Frag) : AlX := (((fa.all fun f => f K) && (fn.all fun d => d.ok K)) && (fi.all fun d => d.ok file K), fn.map (fun d => fnW K d.at_), fi.map fun d => fnXo K d.x)
def valX (fn : List DefD) (fi : List InD) : AlX := (true, fn.map DefD.val, fi.map InD.val)
def SaysX (file : Str) (fa : List Fct) (fn : List DefD) (fi : List InD) (K : PySem.W.Frag) : Prop := obsX file fa fn fi K = valX fn fi
def obsXG (n : Nat) (file : Str) (fa : List Fct) (fn : List DefD) (fi : List InD) (g : Addr → Option Obj) : AlX := obsX file fa fn fi (frG g (asR g n))
def hookX (n : Nat) (file : Str) (fa : List Fct) (fn : List DefD) (fi : List InD) : PySem.W.Hook where
  α := AlX
  obs := fun s => obsXG n file fa fn fi s.heap.get?
  val := fun _ => valX fn fi
  says := fun _ h => ∃ K : PySem.W.Frag, K.In h ∧ SaysX file fa fn fi K
  of := fun _ _ e => ⟨_, frG_in, e⟩
  keeps := fun _ _ _ ⟨K, hK, c⟩ k => ⟨K, PySem.W.Frag.In.keeps hK k, c⟩
theorem obsXG_eq {n : Nat} {file : Str} {fa : List Fct} {fn : List DefD} {fi : List InD} {g : Addr → Option Obj} {s : Shared} (h : ∀ a, g a = s.heap.get? a) : obsXG n file fa fn fi g = (hookX n file fa fn fi).obs s := by
  have e : g = s.heap.get? := funext h
  rw [e] <;> rfl
section
variable {file : Str} {fa : List Fct} {fn : List DefD} {fi : List InD} {K : PySem.W.Frag}
theorem SaysX.fact (c : SaysX file fa fn fi K) (i : Nat) {f : Fct} (h : fa[i]? = some f := by rfl) : f K = true := by
  have c1 := (ba (ba (show (((fa.all fun f => f K) && (fn.all fun d => d.ok K)) && (fi.all fun d => d.ok file K)) = true from congrArg (fun z : AlX => z.1) c)).1).1
  exact List.all_eq_true.mp c1 f (List.mem_of_getElem? h)
theorem SaysX.def_ (c : SaysX file fa fn fi K) (i : Nat) {d : DefD} (h : fn[i]? = some d := by rfl) : ∃ fd, FunD K d.name d.qual d.params d.body d.scope (d.dvs K) (d.kws K) (fAd K d.at_) fd := by
  have c2 := (ba (ba (show (((fa.all fun f => f K) && (fn.all fun d => d.ok K)) && (fi.all fun d => d.ok file K)) = true from congrArg (fun z : AlX => z.1) c)).1).2
  have e : fn.map (fun d => fnW K d.at_) = fn.map DefD.val := congrArg (fun z : AlX => z.2.1) c
  have e2 : (fn.map fun d => fnW K d.at_)[i]? = (fn.map DefD.val)[i]? := by rw [e]
  rw [List.getElem?_map, List.getElem?_map, h] at e2
  exact DefD.funD (Option.some.inj e2) (List.all_eq_true.mp c2 d (List.mem_of_getElem? h))
theorem SaysX.ini (c : SaysX file fa fn fi K) (i : Nat) {d : InD} (h : fi[i]? = some d := by rfl) : fnXo K d.x = d.val ∧ d.ok file K = true := by
  have c2 := (ba (show (((fa.all fun f => f K) && (fn.all fun d => d.ok K)) && (fi.all fun d => d.ok file K)) = true from congrArg (fun z : AlX => z.1) c)).2
  have e : fi.map (fun d => fnXo K d.x) = fi.map InD.val := congrArg (fun z : AlX => z.2.2) c
  have e2 : (fi.map fun d => fnXo K d.x)[i]? = (fi.map InD.val)[i]? := by rw [e]
  rw [List.getElem?_map, List.getElem?_map, h] at e2
  exact ⟨Option.some.inj e2, List.all_eq_true.mp c2 d (List.mem_of_getElem? h)⟩
end
end FxH
/-! Short words over the layer: a def by its name (Src), a def that keeps its promise (Cal), constants (Cst) -/
namespace Fx
open PySem PySem.Spec PyProof.Rows L2
/-- a def of the text as it stands behind the top -/
def Src (K : PySem.W.Frag) (mg : Str → Option Value) (x : Str) (st : Stmt) : Prop := ∃ f fd, mg x = some (.ref f) ∧ FunD K x x (defArgs st) (defBody st) (defScope st) [] [] f fd
/-- a def that keeps its promise -/
structure Cal (P : Program) (w : World) (K : PySem.W.Frag) (mg : Str → Option Value) (base : Heap) (CX : CXT) (k : Nat) (x : Str) (ps : List Str) (sp : Sp) : Prop where
  ex : ∃ f fd, mg x = some (.ref f) ∧ PySem.W.keepIn K (.ref f) = true ∧ Binds K fd ps [] ∧ FnOk P w K mg base CX k f fd ps sp
/-- a constant of the module -/
def Cst (mg : Str → Option Value) (x : Str) (v : V) : Prop := ∃ u, mg x = some u ∧ RelV v u
section
variable {P : Program} {w : World} {K : PySem.W.Frag} {mg : Str → Option Value} {base : Heap} {x : Str} {st : Stmt} {N ps : List Str} {k : Nat} {sp : Sp}
abbrev BindP (x : Str) (st : Stmt) (ps : List Str) : Prop := ∀ (kV doc pm : Value) (an : Option Addr) (cdv ct : Value) (us : List Value), us.length = ps.length → bindArgs (PySem.W.fnOf x x (defArgs st) (defBody st) (defScope st) .none kV doc pm an cdv ct) ⟨us, []⟩ = pure (ps.zip us)
/-- a def that lets nothing out -/
theorem Src.cal (S : Src K mg x st) (sc : FnScope N ps (defScope st)) (bn : BindP x st ps) (len : ∀ vs H Q E, sp vs H Q E → vs.length = ps.length)
    (hbody : ∀ (f : Addr) (cdv : Value) (A : Around) (outer : List Env) (s : Shared) (H : Hp) (vs : List V) (Q : VK) (E : XK), Room k (A.deeper (envOfC x (defScope st) s.heap.objs.size f cdv)) → sp vs H Q E →
      ∃ t, PSs (cxOf CX0 P w K mg base N x (defScope st) f cdv A outer s H E).nox (defBody st) t ∧ t { nx := fun _ H' => Q .non H', rt := Q } (start N vs) H) : Cal P w K mg base CX0 (k + 1) x ps sp := by
  obtain ⟨f, fd, g, F⟩ := S
  refine ⟨f, fd, g, F.kp, F.bindsN bn, F.ok sc len fun cdv A outer s H vs Q E hr hsp => ?_⟩
  obtain ⟨t, h, q⟩ := hbody f cdv A outer s H vs Q E hr hsp
  exact ⟨t, h.nox, q⟩
/-- a def that may raise -/
theorem Src.calX (S : Src K mg x st) (sc : FnScope N ps (defScope st)) (bn : BindP x st ps) (len : ∀ vs H Q E, sp vs H Q E → vs.length = ps.length)
    (hbody : ∀ (f : Addr) (cdv : Value) (A : Around) (outer : List Env) (s : Shared) (H : Hp) (vs : List V) (Q : VK) (E : XK), Room k (A.deeper (envOfC x (defScope st) s.heap.objs.size f cdv)) → sp vs H Q E →
      ∃ t, PSs (cxOf (L2.CX P w) P w K mg base N x (defScope st) f cdv A outer s H E) (defBody st) t ∧ t { nx := fun _ H' => Q .non H', rt := Q } (start N vs) H) : Cal P w K mg base (L2.CX P w) (k + 1) x ps sp := by
  obtain ⟨f, fd, g, F⟩ := S
  exact ⟨f, fd, g, F.kp, F.bindsN bn, F.ok sc len fun cdv A outer s H vs Q E hr hsp => hbody f cdv A outer s H vs Q E hr hsp⟩
end
/-! ### arguments without a star -/
def nostar : Expr → Bool
  | .Starred _ _ => false
  | _ => true
theorem star_ok {e : Expr} {es : List Expr} {env : Env} (h : nostar e = true) : starEach (e :: es) env = (false, eval e env) :: starEach es env := by
  cases e <;> first | rfl | cases h
theorem back_ok {pos : Pos} {env : Env} : ∀ {es : List Expr}, es.all nostar = true → (backTo pos (starEach es env)).any (·.1) = false
  | [], _ => rfl
  | e :: es, h => by
    simp only [List.all_cons, Bool.and_eq_true] at h
    rw [star_ok h.1]
    show (false || (backTo pos (starEach es env)).any (·.1)) = false
    rw [back_ok h.2]
    rfl
theorem pa_c {X : Cx} {e : Expr} {es : List Expr} {te : TE} {t : TA} (ha : PE X e te) (hr : PA X es t) (hs : nostar e = true := by rfl) : PA X (e :: es) (tCons te t) := pa_cons ha hr (star_ok hs)
section
variable {X : Cx} {x : Str} {p pos : Pos} {e : Expr} {es : List Expr} {t : TA} {id T : String} {r : List V → Hp → VK → Prop}
theorem pe_cB (hc : CallR X (.builtin id) r) (hm : X.mg x = none) (hv : bootBuiltins x = some (.builtin id)) (ha : PA X (e :: es) t) (hg : Gl X x := by rfl) (hn : x ≠ "__name__" := by decide) (hdb : (x == ("__debug__" : Str)) = false := by decide)
    (hs : (e :: es).all nostar = true := by rfl) : PE X (.Call (.Name x p) (e :: es) [] pos) (tCB r t) := by
  simp only [List.all_cons, Bool.and_eq_true] at hs
  exact pe_callB hc hg hm hv ha hn hdb (star_ok hs.1) (back_ok hs.2)
theorem pe_cTy (hc : CallR X (.type T) r) (hm : X.mg x = none) (hv : bootBuiltins x = some (.type T)) (ha : PA X (e :: es) t) (hg : Gl X x := by rfl) (hn : x ≠ "__name__" := by decide) (hdb : (x == ("__debug__" : Str)) = false := by decide)
    (hs : (e :: es).all nostar = true := by rfl) : PE X (.Call (.Name x p) (e :: es) [] pos) (tCB r t) := by
  simp only [List.all_cons, Bool.and_eq_true] at hs
  exact pe_callTy hc hg hm hv ha hn hdb (star_ok hs.1) (back_ok hs.2)
end
section
variable {X : Cx} {x : Str} {ps : List Str} {sp : Sp} {k : Nat} {CX : CXT} {E : XK} {e : Expr} {es : List Expr} {t : TA} {p pos : Pos}
/-- f(e, ..) -/
theorem pe_cal (C : Cal X.prog X.w X.K X.mg X.base CX k x ps sp) (hr : Room k X.A) (hx : Passes CX X E) (ha : PA X (e :: es) t) (hg : Gl X x := by rfl) (hdb : (x == ("__debug__" : Str)) = false := by decide)
    (hs : (e :: es).all nostar = true := by rfl) : PE X (.Call (.Name x p) (e :: es) [] pos) (tCall sp [] E t) := by
  obtain ⟨f, fd, g, kp, b, F⟩ := C.ex
  simp only [List.all_cons, Bool.and_eq_true] at hs
  exact pe_call F hr hg g kp b .nil hx ha hdb (star_ok hs.1) (back_ok hs.2)
theorem pe_cal0 (C : Cal X.prog X.w X.K X.mg X.base CX k x ps sp) (hr : Room k X.A) (hx : Passes CX X E) (hg : Gl X x := by rfl) (hdb : (x == ("__debug__" : Str)) = false := by decide) : PE X (.Call (.Name x p) [] [] pos) (tCall sp [] E tNil) := by
  obtain ⟨f, fd, g, kp, b, F⟩ := C.ex
  exact pe_call0 F hr hg g kp b .nil hx hdb
/-- f(e, ..) of a def that may raise, in a try's body -/
theorem pe_calS {W : WX} (C : Cal X.prog X.w X.K X.mg X.base (L2.CX X.prog X.w) k x ps sp) (hr : Room k X.A) (tk : Takes X W) (ha : PA X (e :: es) t) (hg : Gl X x := by rfl) (hdb : (x == ("__debug__" : Str)) = false := by decide)
    (hs : (e :: es).all nostar = true := by rfl) : PE X (.Call (.Name x p) (e :: es) [] pos) (tCallS sp (WE W) t) := by
  obtain ⟨f, fd, g, kp, b, F⟩ := C.ex
  simp only [List.all_cons, Bool.and_eq_true] at hs
  exact pe_callS F hr hg g kp b (fun σ => passAt tk σ) ha hdb (star_ok hs.1) (back_ok hs.2)
theorem pe_cst {v : V} (h : Cst X.mg x v) (hg : Gl X x := by rfl) (hdb : (x == ("__debug__" : Str)) = false := by decide) : PE X (.Name x p) (tC v) := by
  obtain ⟨u, hm, r⟩ := h
  exact pe_glob hg hm r hdb
end
end Fx
/-! The law's bag of numbers -/
namespace Fx
open PySem PySem.Spec PyProof.Rows L2
def bagKV (c : Addr) (a r m n : Int) : List (Key × V) := [(.inr "cells", .ref c), (.inr "at", .int a), (.inr "rest", .int r), (.inr "mixed", .int m), (.inr "count", .int n)]
section
variable {c : Addr} {a r m n : Int} {v : Int}
theorem bag_cells : valV (bagKV c a r m n) (.inr "cells") = some (.ref c) := rfl
theorem bag_at : valV (bagKV c a r m n) (.inr "at") = some (.int a) := rfl
theorem bag_rest : valV (bagKV c a r m n) (.inr "rest") = some (.int r) := rfl
theorem bag_mixed : valV (bagKV c a r m n) (.inr "mixed") = some (.int m) := rfl
theorem bag_count : valV (bagKV c a r m n) (.inr "count") = some (.int n) := rfl
theorem bag_atP : putK (bagKV c a r m n) (.inr "at") (.int v) = bagKV c v r m n := rfl
theorem bag_restP : putK (bagKV c a r m n) (.inr "rest") (.int v) = bagKV c a v m n := rfl
theorem bag_mixedP : putK (bagKV c a r m n) (.inr "mixed") (.int v) = bagKV c a r v n := rfl
theorem bag_countP : putK (bagKV c a r m n) (.inr "count") (.int v) = bagKV c a r m v := rfl
end
/-- the bag at b, its numbers at c -/
def BagC (H : Hp) (b c : Addr) : Prop := ∃ (ns : List Int) (a r m n : Int), H b = some (.dK (bagKV c a r m n)) ∧ H c = some (.lst (ns.map V.int)) ∧ 0 ≤ a
def Bag (H : Hp) (b : Addr) : Prop := ∃ c : Addr, BagC H b c
/-- all that was tracked but the bag is as it was; the bag is a bag -/
structure Kp (b : Addr) (H H' : Hp) : Prop where
  keep : ∀ a o, a ≠ b → H a = some o → H' a = some o
  bag : Bag H' b
  cel : ∀ c, BagC H b c → BagC H' b c
section
variable {b c D : Addr} {H H1 H2 : Hp}
theorem Bag.some (B : Bag H b) : ∃ kvs, H b = some (.dK kvs) := by
  obtain ⟨c, ns, a, r, m, n, h, _⟩ := B
  exact ⟨_, h⟩
theorem BagC.same (B : BagC H b c) (s : Same H H1) : BagC H1 b c := by
  obtain ⟨ns, a, r, m, n, h1, h2, h3⟩ := B
  exact ⟨ns, a, r, m, n, s _ _ h1, s _ _ h2, h3⟩
theorem Kp.refl (B : Bag H b) : Kp b H H := ⟨fun _ _ _ h => h, B, fun _ h => h⟩
theorem Kp.trans (x : Kp b H H1) (y : Kp b H1 H2) : Kp b H H2 := ⟨fun a o n h => y.keep a o n (x.keep a o n h), y.bag, fun c h => y.cel c (x.cel c h)⟩
theorem Bag.same (B : Bag H b) (s : Same H H1) : Bag H1 b := by
  obtain ⟨c, h⟩ := B
  exact ⟨c, h.same s⟩
theorem Kp.same (B : Bag H b) (s : Same H H1) : Kp b H H1 := ⟨fun a o _ h => s a o h, B.same s, fun c h => h.same s⟩
theorem Kp.then (x : Kp b H H1) (s : Same H1 H2) : Kp b H H2 := x.trans (Kp.same x.bag s)
theorem BagC.put {o : HO} (B : BagC H b c) (hb : b ≠ D) (hc : c ≠ D) : BagC (upd H D o) b c := by
  obtain ⟨ns, a, r, m, n, h1, h2, h3⟩ := B
  exact ⟨ns, a, r, m, n, by rw [upd_ne hb]; exact h1, by rw [upd_ne hc]; exact h2, h3⟩
/-- what was made since then may be changed -/
theorem Kp.put {o : HO} (B : Bag H b) (x : Kp b H H1) (hD : H D = Option.none) : Kp b H (upd H1 D o) := by
  have g : ∀ c, BagC H b c → BagC (upd H1 D o) b c := by
    intro c Bc
    have B1 := x.cel c Bc
    obtain ⟨ns, a, r, m, n, h1, h2, h3⟩ := Bc
    exact B1.put (ne_of_none h1 hD) (ne_of_none h2 hD)
  obtain ⟨c, Bc⟩ := B
  exact ⟨fun a o' n h => by rw [upd_ne (ne_of_none h hD)]; exact x.keep a o' n h, ⟨c, g c Bc⟩, g⟩
theorem Kp.none_ne (x : Kp b H H1) (B : Bag H b) (hD : H D = Option.none) : D ≠ b := fun e => by
  obtain ⟨kvs, h⟩ := B.some
  rw [← e, hD] at h
  cases h
theorem Bag.lst (B : Bag H b) {a : Addr} {xs : List V} (h : H a = Option.some (.lst xs)) : a ≠ b := by
  obtain ⟨c, ns, x, r, m, n, h1, _⟩ := B
  exact ne_of h h1 (by intro z; cases z)
theorem Bag.tup (B : Bag H b) {a : Addr} {xs : List V} (h : H a = Option.some (.tup xs)) : a ≠ b := by
  obtain ⟨c, ns, x, r, m, n, h1, _⟩ := B
  exact ne_of h h1 (by intro z; cases z)
theorem Kp.lst (x : Kp b H H1) (B : Bag H b) {a : Addr} {xs : List V} (h : H a = Option.some (.lst xs)) : H1 a = Option.some (.lst xs) := x.keep _ _ (B.lst h) h
theorem Kp.tup (x : Kp b H H1) (B : Bag H b) {a : Addr} {xs : List V} (h : H a = Option.some (.tup xs)) : H1 a = Option.some (.tup xs) := x.keep _ _ (B.tup h) h
theorem Kp.free (x : Kp b H H1) {p : Addr} (h : H1 p = Option.none) : H p = Option.none := by
  cases q : H p with
  | none => rfl
  | some o =>
    by_cases e : p = b
    · obtain ⟨kvs, hb⟩ := x.bag.some
      rw [e, hb] at h
      cases h
    · rw [x.keep p o e q] at h
      cases h
theorem same_new {H : Hp} {p : Addr} {o : HO} (h : H p = Option.none) : Same H (upd H p o) := fun b x e => by
  rw [upd_ne (ne_of_none e h)]
  exact e
end
/-- _law_pick(bag, many) -/
def spPick : Sp := fun vs H Q _ => ∃ (b : Addr) (many : Int), vs = [.ref b, .int many] ∧ Bag H b ∧ 0 < many ∧ many < 1073741824 ∧ ∀ (n : Int) (H' : Hp), 0 ≤ n → n < many → Kp b H H' → Q (.int n) H'
/-- _law_bag(script) -/
def spBag (K : PySem.W.Frag) : Sp := fun vs H Q _ => ∃ (a : Addr) (ns : List Int), vs = [.ref a] ∧ SqL K H a (ns.map V.int) ∧ ns.length ≤ 1000 ∧ ∀ (b : Addr) (H' : Hp), Same H H' → H b = none → Bag H' b → Q (.ref b) H'
end Fx
/-! Readings evaluated by simp -/
namespace Fx
open PySem PySem.Spec PyProof.Rows L2
section
variable {H H' : Hp} {a b p : Addr} {z : Str} {i : Int} {r : Option V} {v : V} {kvs : List (Key × V)} {o u : HO}
theorem dget_s (hb : H b = some (.dK kvs)) : DGet H b (.str z) r ↔ r = valV kvs (.inr z) := by
  constructor
  · rintro (⟨kvs', k, hr, e, rfl⟩ | ⟨kvs', k, b', hr, e, _⟩)
    · rcases hr with hr | ⟨o, hr⟩
      · rw [hb] at hr
        cases hr
        cases k with
        | inl i => cases e
        | inr y => cases e; rfl
      · rw [hb] at hr
        cases hr
    · cases e
  · rintro rfl
    exact DGet.k (k := Sum.inr z) hb
theorem dget_i (hb : H b = some (.dK kvs)) : DGet H b (.int i) r ↔ r = valV kvs (.inl i) := by
  constructor
  · rintro (⟨kvs', k, hr, e, rfl⟩ | ⟨kvs', k, b', hr, e, _⟩)
    · rcases hr with hr | ⟨o, hr⟩
      · rw [hb] at hr
        cases hr
        cases k with
        | inl i => cases e; rfl
        | inr y => cases e
      · rw [hb] at hr
        cases hr
    · cases e
  · rintro rfl
    exact DGet.k (k := Sum.inl i) hb
theorem dput_s (hb : H b = some (.dK kvs)) (hl : kvs.length < 1000) : DPut H b (.str z) v H' ↔ H' = upd H b (.dK (putK kvs (.inr z) v)) := by
  constructor
  · rintro (⟨kvs', k, hr, e, _, rfl⟩ | ⟨kvs', k, b', hr, e, _⟩)
    · rw [hb] at hr
      cases hr
      cases k with
      | inl i => cases e
      | inr y => cases e; rfl
    · cases e
  · rintro rfl
    exact DPut.k (k := Sum.inr z) hb (Nat.lt_of_lt_of_le hl (by decide))
theorem dget_su : DGet (upd H b (.dK kvs)) b (.str z) r ↔ r = valV kvs (.inr z) := dget_s upd_same
theorem dput_su (hl : kvs.length < 1000) : DPut (upd H b (.dK kvs)) b (.str z) v H' ↔ H' = upd H b (.dK (putK kvs (.inr z) v)) := by
  rw [dput_s upd_same hl, upd_upd]
theorem bag_len {c : Addr} {a r m n : Int} : (bagKV c a r m n).length < 1000 := show 5 < 1000 by decide
theorem ite_dec {p : Prop} [Decidable p] {A B : Prop} : (if decide p = true then A else B) ↔ (if p then A else B) := by simp
theorem ite_ndec {p : Prop} [Decidable p] {A B : Prop} : (if (!decide p) = true then A else B) ↔ (if p then B else A) := by
  by_cases h : p <;> simp [h]
end
end Fx
namespace Fx
open PySem PySem.Spec PyProof.Rows L2
/-- one statement first; the rest stays folded -/
theorem seqI {t u : TS} {D : Ends} {σ : L2.St} {H : Hp} (h : ∀ K : L2.St → Hp → Prop, (∀ σ H, u D σ H → K σ H) → t { D with nx := K } σ H) : tSeq t u D σ H := h (u D) fun _ _ x => x
theorem ifI {tc : TT} {t u : TS} {D : Ends} {σ : L2.St} {H : Hp} (h : ∀ A B : Hp → Prop, (∀ H1, t D σ H1 → A H1) → (∀ H1, u D σ H1 → B H1) → tc σ H (fun b H1 => if b = true then A H1 else B H1)) : tIfS tc t u D σ H := h (t D σ) (u D σ) (fun _ x => x) (fun _ x => x)
theorem while_i {c : TT} {tb : TS} {D : Ends} {σ : L2.St} {H : Hp} (Pv : L2.St → Hp → Prop) (μ : L2.St → Hp → Nat) (h0 : Pv σ H)
    (hs : ∀ σ H, Pv σ H → ∀ A B : Hp → Prop, (∀ H1, tb { D with nx := fun σ' H' => Pv σ' H' ∧ μ σ' H' < μ σ H, ct := fun σ' H' => Pv σ' H' ∧ μ σ' H' < μ σ H, bk := D.nx } σ H1 → A H1) → (∀ H1, D.nx σ H1 → B H1) → c σ H fun b H1 => if b = true then A H1 else B H1) : tWhile c tb D σ H := by
  refine ⟨fun m σ H => m = μ σ H ∧ Pv σ H, ⟨_, rfl, h0⟩, ?_⟩
  rintro m σ H ⟨rfl, p⟩
  exact hs σ H p _ _ (fun H1 t => ⟨fun σ' H' => Pv σ' H' ∧ μ σ' H' < μ σ H, fun σ' H' ⟨a, b⟩ => ⟨μ σ' H', b, rfl, a⟩, t⟩) (fun H1 x => x)
theorem forI {wi : TI} {g : TG} {tb : TS} {D : Ends} {σ : L2.St} {H : Hp} (h : ∀ R : It → Hp → Prop, (∀ J H1, (∃ W : Nat → Nat → L2.St → Hp → Prop, (∃ m, W 0 m σ H1) ∧ ∀ i m σ H, W i m σ H →
    (J.stop i H ∧ D.nx σ H) ∨ (J.go i H ∧ ∃ N : L2.St → Hp → Prop, (∀ σ' H', N σ' H' → ∃ m', m' < m ∧ W (i + 1) m' σ' H') ∧ ∀ x H', J.yld i H x H' → g x σ H' fun σ2 H2 => tb { D with nx := N, ct := N, bk := D.nx } σ2 H2)) → R J H1) → wi σ H R) : tFor wi g tb D σ H := h _ fun _ _ x => x
theorem ite_i {c A B : Prop} [Decidable c] (h1 : c → A) (h2 : ¬ c → B) : if c then A else B := ite2 h1 h2
theorem sz {n : Nat} (h : n ≤ 100000) : n ≤ sizeLine := Nat.le_trans h (by decide)
end Fx
namespace Fx
open PySem PySem.Spec PyProof.Rows L2
theorem cx_K {CX : CXT} {P : Program} {w : World} {K : PySem.W.Frag} {mg : Str → Option Value} {base : Heap} {N : List Str} {qual : Str} {scope : Scope} {f : Addr} {cd : Value} {A : Around} {outer : List Env} {s : Shared} {H : Hp} {E : XK} :
    (cxOf CX P w K mg base N qual scope f cd A outer s H E).K = K := rfl
end Fx
/-! Rules whose readings ask the tracked heap alone -/
namespace Fx
open PySem PySem.Spec PyProof.Rows L2
section
variable {X : Cx}
theorem IxR.imp {r r' : R2} (h : IxR X r) (i : ∀ x y H Q, r' x y H Q → r x y H Q) : IxR X r' := by
  intro value slice pins s σ H x y v u Q I rx ry q e
  exact h value slice pins s σ H x y v u Q I rx ry (i _ _ _ _ q) e
theorem CallR.imp {f : Value} {r r' : List V → Hp → VK → Prop} (h : CallR X f r) (i : ∀ xs H Q, r' xs H Q → r xs H Q) : CallR X f r' := fun pins s σ H xs us Q I rx q => h pins s σ H xs us Q I rx (i _ _ _ q)
theorem SlR.imp {r r' : V → Option Int → Option Int → Hp → VK → Prop} (h : SlR X r) (i : ∀ x lo hi H Q, r' x lo hi H Q → r x lo hi H Q) : SlR X r' := by
  intro pins s σ H x v vl vu lo hi sl Q I rx hs pl pu q
  exact h pins s σ H x v vl vu lo hi sl Q I rx hs pl pu (i _ _ _ _ _ q)
/-- xs[i], a tracked list | tuple -/
def rIxLt : R2 := fun x y H Q => ∃ p i xs, x = .ref p ∧ y = .int i ∧ H p = some (.lst xs) ∧ ∃ v, atI xs i = some v ∧ Q v H
def rIxTt : R2 := fun x y H Q => ∃ p i xs, x = .ref p ∧ y = .int i ∧ H p = some (.tup xs) ∧ ∃ v, atI xs i = some v ∧ Q v H
theorem ix_L : IxR X rIxLt := IxR.imp ix_list fun x y H Q ⟨p, i, xs, e1, e2, h, v, a, q⟩ => ⟨p, xs, i, v, e1, e2, .inl (.inl h), a, q⟩
theorem ix_T : IxR X rIxTt := IxR.imp ix_tup fun x y H Q ⟨p, i, xs, e1, e2, h, v, a, q⟩ => ⟨p, xs, i, v, e1, e2, .inl (.inl h), a, q⟩
/-- s[i] -/
def rIxSt : R2 := fun x y H Q => ∃ z i, x = .str z ∧ y = .int i ∧ z.length ≤ sizeLine ∧ ∃ c, atI z.cps.toList i = some c ∧ Q (.str ⟨#[c]⟩) H
theorem ix_S : IxR X rIxSt := IxR.imp ix_str fun x y H Q ⟨z, i, e1, e2, h, v, a, q⟩ => ⟨z, i, v, e1, e2, h, a, q⟩
/-- len(xs) -/
def rLenL : List V → Hp → VK → Prop := fun xs H Q => ∃ p ys, xs = [.ref p] ∧ H p = some (.lst ys) ∧ Q (.int ys.length) H
def rLenT : List V → Hp → VK → Prop := fun xs H Q => ∃ p ys, xs = [.ref p] ∧ H p = some (.tup ys) ∧ Q (.int ys.length) H
theorem len_L : CallR X (.builtin "len") rLenL := CallR.imp call_len_seq fun xs H Q ⟨p, ys, e, h, q⟩ => ⟨p, ys, e, .inl (.inl (.inl h)), q⟩
theorem len_T : CallR X (.builtin "len") rLenT := CallR.imp call_len_seq fun xs H Q ⟨p, ys, e, h, q⟩ => ⟨p, ys, e, .inr (.inl (.inl h)), q⟩
def rLenS : List V → Hp → VK → Prop := fun xs H Q => ∃ z, xs = [.str z] ∧ z.length ≤ sizeLine ∧ Q (.int z.length) H
theorem len_S : CallR X (.builtin "len") rLenS := call_len_str
/-- int(n) -/
def rIntI : List V → Hp → VK → Prop := fun xs H Q => ∃ i, xs = [.int i] ∧ Q (.int i) H
theorem int_I : CallR X (.type "int") rIntI := CallR.imp call_int1 fun xs H Q h => .inl h
def rOrd : List V → Hp → VK → Prop := fun xs H Q => ∃ x, xs = [.str x] ∧ x.length = 1 ∧ Q (.int (x.cps.getD 0 0 : Nat)) H
theorem ord_S : CallR X (.builtin "ord") rOrd := call_ord
/-- xs[a:b] -/
def rSlLt : V → Option Int → Option Int → Hp → VK → Prop := fun x lo hi H Q => ∃ a xs, x = .ref a ∧ H a = some (.lst xs) ∧ ∀ p, H p = none → Q (.ref p) (upd H p (.lst (cutV xs lo hi)))
theorem sl_L : SlR X rSlLt := SlR.imp sl_list fun x lo hi H Q ⟨a, xs, e, h, q⟩ => ⟨a, xs, e, .inl (.inl h), q⟩
/-- list(t), list(xs) -/
def rLstL : List V → Hp → VK → Prop := fun xs H Q => ∃ p ys, xs = [.ref p] ∧ H p = some (.lst ys) ∧ ∀ l, H l = none → Q (.ref l) (upd H l (.lst ys))
def rLstT : List V → Hp → VK → Prop := fun xs H Q => ∃ p ys, xs = [.ref p] ∧ H p = some (.tup ys) ∧ ∀ l, H l = none → Q (.ref l) (upd H l (.lst ys))
theorem list_L : CallR X (.type "list") rLstL := CallR.imp call_list_of fun xs H Q ⟨p, ys, e, h, q⟩ => ⟨p, ys, e, .inl (.inl (.inl h)), q⟩
theorem list_T : CallR X (.type "list") rLstT := CallR.imp call_list_of fun xs H Q ⟨p, ys, e, h, q⟩ => ⟨p, ys, e, .inr (.inl (.inl h)), q⟩
/-- all(xs), any(xs) of truth values -/
def rAllL : List V → Hp → VK → Prop := fun vs H Q => ∃ (a : Addr) (bs : List Bool), vs = [V.ref a] ∧ H a = some (.lst (bs.map V.bl)) ∧ Q (.bl (bs.all id)) H
def rAnyL : List V → Hp → VK → Prop := fun vs H Q => ∃ (a : Addr) (bs : List Bool), vs = [V.ref a] ∧ H a = some (.lst (bs.map V.bl)) ∧ Q (.bl (bs.any id)) H
theorem all_L (hc : X.calm = true) : CallR X (.builtin "all") rAllL := CallR.imp (cr_all hc) fun xs H Q ⟨p, ys, e, h, q⟩ => ⟨p, ys, e, .inl (.inl h), q⟩
theorem any_L (hc : X.calm = true) : CallR X (.builtin "any") rAnyL := CallR.imp (cr_any hc) fun xs H Q ⟨p, ys, e, h, q⟩ => ⟨p, ys, e, .inl (.inl h), q⟩
/-- s * n -/
def rMulS : R2 := fun x y H Q => ∃ z n, x = .str z ∧ y = .int n ∧ 0 ≤ n ∧ n ≤ 1000000 ∧ z.length * n.toNat ≤ 1000000 ∧ Q (.str (Txt.mul z n)) H
theorem mulOk_of {z : Str} {n : Int} (h0 : 0 ≤ n) (h : z.length * n.toNat ≤ 1000000) (hn : z.length ≠ 0 → n ≤ 1000000) (h63 : n < 2 ^ 63) : MulOk z n := by
  refine ⟨?_, fun h1 h2 => ?_, fun h1 h2 => ?_⟩
  · have a : ¬ n < -(2 ^ 63 : Int) := by omega
    have b : ¬ n ≥ 2 ^ 63 := by omega
    simp only [decide_eq_false a, decide_eq_false b, Bool.or_self]
  · simp only [Bool.or_eq_false_iff, beq_eq_false_iff_ne] at h2
    have hz := hn h2.2
    have hl : z.length ≤ 1000000 := Nat.le_trans (Nat.le_mul_of_pos_right _ (by omega)) h
    have : (2 ^ 63 - 1) / n ≥ 1000000 := by
      apply (Int.le_ediv_iff_mul_le (by omega)).mpr
      have : 1000000 * n ≤ 1000000 * 1000000 := Int.mul_le_mul_of_nonneg_left hz (by decide)
      omega
    omega
  · unfold Builtin.Str.tooLong
    rw [decide_eq_false_iff_not, sizeLine_eq]
    omega
theorem op_mul_str : OpR X (binaryOp .Mult) rMulS := by
  intro pins s σ H x y v u Q I rx ry h
  obtain ⟨z, n, rfl, rfl, h0, h1, hl, q⟩ := h
  obtain ⟨t, rfl⟩ := rx
  obtain ⟨t', rfl⟩ := ry
  exact SB.mul (mulOk_of h0 hl (fun _ => h1) (by omega)) fun t' k => ⟨.str (Txt.mul z n), H, I.tok _, ⟨_, rfl⟩, q⟩
end
/-! ### for i, c in enumerate(text) -/
def Ites (z : Str) : It :=
  ⟨fun i _ => i < z.cps.size, fun i H v H' => ∃ T c, v = .ref T ∧ H T = none ∧ H' = upd H T (.tup [.int (i : Nat), .str ⟨#[c]⟩]) ∧ z.cps[i]? = some c, fun i _ => z.cps.size ≤ i⟩
theorem strDraws {P : Program} {w : World} {A : Around} (hh : A.handled = none) (it : Addr) (x : Str) (t : Tok) : Draws P w A it [it] x.cps.size (fun i v => ∃ c u, x.cps[i]? = some c ∧ v = .str ⟨#[c]⟩ u) (fun i h => h.IsStrIter it (strIterType x) x t i) := by
  have e : strIterType x = "str_ascii_iterator" ∨ strIterType x = "str_iterator" := by
    unfold strIterType
    split
    · exact .inl rfl
    · exact .inr rfl
  rcases e with e | e
  · rw [e]; exact Draws.strAscii hh it x t
  · rw [e]; exact Draws.strWide hh it x t
theorem turn_enumS {P : Program} {w : World} {K : PySem.W.Frag} {elts : List Expr} {kk : Nat} {tpos : Pos} (x : Str) (t : Tok) (e it : Addr) :
    Turn P w K (.Tuple elts kk tpos) (Ites x) [e, it] e (fun i h => (∃ old, IsEnum h e it ((i : Nat) : Int) old) ∧ h.IsStrIter it (strIterType x) x t i ∧ i ≤ x.cps.size ∧ e ≠ it) where
  mem := by simp
  obj := fun i h st b hb => by
    obtain ⟨⟨old, he⟩, ⟨o, ho, hc, hd⟩, _⟩ := st
    have e' : b = e ∨ b = it := by simpa using hb
    rcases e' with z | z
    · rw [z]; exact ⟨_, he, fun v q => nomatch q⟩
    · rw [z]; exact ⟨o, ho, fun v q => by rw [hd] at q; cases q⟩
  keep := fun i h h' st k => let ⟨⟨old, he⟩, ⟨o, ho, hr⟩, hi, hne⟩ := st; ⟨⟨old, k e (by simp) _ he⟩, ⟨o, k it (by simp) o ho, hr⟩, hi, hne⟩
  item := by
    intro X hP hw hK hc i pins s σ H E I hf st hg
    subst hP hw hK
    obtain ⟨⟨old, he⟩, hit, hi, hne⟩ := st
    have hel : e < s.heap.objs.size := Heap.lt_size he
    have hil : it < s.heap.objs.size := by obtain ⟨_, q, _⟩ := hit; exact Heap.lt_size q
    have D := strDraws (P := X.prog) (w := X.w) (A := X.A.in1) (show X.A.in1.handled = none from I.ok.hd hc) it x t
    refine wpAny_pyNext_enum_itemD D he hit hg hne (by simpa using hne) fun u h' tk hu ho hit' hT hsz hk => ?_
    obtain ⟨c, tc, hcx, rfl⟩ := hu
    refine ⟨_, rfl, wpAny_letOwnedTupleGo_enum (s := { s with heap := h', toks := tk + 1 }) ho fun h'' he' sb => ?_⟩
    have hT2 : h''.get? s.heap.objs.size = some { cls := .type "tuple", data := .seq #[.int i tk, .str ⟨#[c]⟩ tc] } := (sb.2 _ (Nat.ne_of_gt hel)).trans hT
    have new : ObjOk X.prog X.w (upd H s.heap.objs.size (.tup [.int (i : Nat), .str ⟨#[c]⟩])) h'' s.heap.objs.size (.tup [.int (i : Nat), .str ⟨#[c]⟩]) :=
      ⟨by show 2 ≤ sizeLine; decide, [.int i tk, .str ⟨#[c]⟩ tc], .cons ⟨_, rfl⟩ (.cons ⟨_, rfl⟩ .nil), ⟨_, hT2, rfl, _, rfl⟩⟩
    have I1 : Inv X pins σ (upd H s.heap.objs.size (.tup [.int (i : Nat), .str ⟨#[c]⟩])) { s with heap := h'', toks := tk + 1 } :=
      I.turnedNew (ch := [e, it]) (fun b ob hb q => (sb.2 b (fun z => hb (by simp [z]))).trans (hk b ob (fun z => hb (by simp [z])) (fun z => hb (by simp [z])) q)) hf (Nat.le_refl _) new
    refine ⟨.ref s.heap.objs.size, _, I1, rfl, ⟨_, c, rfl, I.hok.fresh (Nat.le_refl _), rfl, hcx⟩, ⟨⟨.str ⟨#[c]⟩ tc, ?_⟩, ?_, hg, hne⟩, fun b hb => ?_⟩
    · have e1 : ((i + 1 : Nat) : Int) = (i : Int) + 1 := by omega
      rw [e1]; exact he'
    · obtain ⟨o, ho2, hr⟩ := hit'
      exact ⟨o, (sb.2 it (Ne.symm hne)).trans ho2, hr⟩
    · have hb' : b < s.heap.objs.size := by
        have e' : b = e ∨ b = it := by simpa using hb
        rcases e' with z | z
        · rw [z]; exact hel
        · rw [z]; exact hil
      rw [upd_ne (Nat.ne_of_lt hb')]
      exact (hf b hb).1
  done := by
    intro X hP hw hK hc i pins s σ H E I hf st hg
    subst hP hw hK
    obtain ⟨⟨old, he⟩, hit, hi, hne⟩ := st
    have ei : i = x.cps.size := Nat.le_antisymm hi hg
    subst ei
    obtain ⟨f0, f1, f2, f3, f4, f5⟩ := hf it (by simp)
    have D := strDraws (P := X.prog) (w := X.w) (A := X.A.in1) (show X.A.in1.handled = none from I.ok.hd hc) it x t
    exact wpAny_pyNext_enum_endD D he hit fun h' eb => ⟨rfl, I.turned (t' := s.toks) (fun b o hb q => eb b o hb q) f0 f1 f3 f4 f5⟩
  self := fun A i s Q E st h => let ⟨⟨_, he⟩, _⟩ := st; wpAny_pyIter_enum he h
def iEnumS (ta : TA) : TI := fun σ H R => ta σ H fun vs H1 => ∃ z, vs = [.str z] ∧ R (Ites z) H1
theorem pi_enumS {X : Cx} {e : Expr} {ta : TA} {p pos tpos : Pos} {elts : List Expr} {kk : Nat} (hg : Gl X "enumerate") (hm : X.mg "enumerate" = none) (ha : PA X [e] ta) (hs : starEach [e] X.env = [(false, eval e X.env)] := by rfl) :
    PI X (.Tuple elts kk tpos) (.Call (.Name "enumerate" p) [e] [] pos) (iEnumS ta) := by
  refine ⟨fun pins s σ H R I h => ?_⟩
  refine Call_ (ld_blt I hg hm boot_enumerate (PyProof.Rows.callWith_type1 (thn (ha.run pos pins s σ H _ I h) fun us s1 ⟨vs, H1, I1, r1, q1⟩ => ?_) hs rfl))
  obtain ⟨z, ex, q⟩ := q1
  subst ex
  cases r1 with
  | cons r rr =>
    cases rr
    obtain ⟨t, rfl⟩ := r
    refine call_enumerate_str fun h' he hit hsz hk => wpAny_pyIter_enum he ?_
    have I2 : Inv X pins σ H1 { s1 with heap := h' } := I1.kept (t' := s1.toks) hk
    refine ⟨s1.heap.objs.size + 1, [s1.heap.objs.size + 1, s1.heap.objs.size], _, _, H1, rfl, I2, turn_enumS z t (s1.heap.objs.size + 1) s1.heap.objs.size, ⟨⟨.none, he⟩, hit, Nat.zero_le _, Nat.succ_ne_self _⟩, fun b hb => ?_, q⟩
    have e' : b = s1.heap.objs.size + 1 ∨ b = s1.heap.objs.size := by simpa using hb
    have hle : s1.heap.objs.size ≤ b := by
      rcases e' with z | z
      · rw [z]; exact Nat.le_add_right _ _
      · rw [z]; exact Nat.le_refl _
    exact I1.fpOk hle (I1.hok.fresh hle)
/-- the loop over enumerate(text), by an invariant -/
theorem for_enumS {z : Str} {g : TG} {tb : TS} {D : Ends} {σ : L2.St} {H1 : Hp} (Pv : Nat → L2.St → Hp → Prop) (h0 : Pv 0 σ H1)
    (hs : ∀ i c T σ H, z.cps[i]? = some c → Pv i σ H → H T = none → g (.ref T) σ (upd H T (.tup [.int (i : Nat), .str ⟨#[c]⟩])) fun σ' H' => tb { nx := fun σ H => Pv (i + 1) σ H, rt := D.rt, bk := D.nx, ct := fun σ H => Pv (i + 1) σ H } σ' H')
    (hd : ∀ σ H, Pv z.cps.size σ H → D.nx σ H) : ∃ W : Nat → Nat → L2.St → Hp → Prop, (∃ m, W 0 m σ H1) ∧ ∀ i m σ H, W i m σ H →
      ((Ites z).stop i H ∧ D.nx σ H) ∨ ((Ites z).go i H ∧ ∃ N : L2.St → Hp → Prop, (∀ σ' H', N σ' H' → ∃ m', m' < m ∧ W (i + 1) m' σ' H') ∧ ∀ x H', (Ites z).yld i H x H' → g x σ H' fun σ2 H2 => tb { nx := N, rt := D.rt, bk := D.nx, ct := N } σ2 H2) := by
  refine ⟨fun i m σ H => m = z.cps.size - i ∧ i ≤ z.cps.size ∧ Pv i σ H, ⟨_, rfl, Nat.zero_le _, h0⟩, ?_⟩
  rintro i m σ H ⟨rfl, hi, p⟩
  by_cases hlt : i < z.cps.size
  · refine .inr ⟨hlt, fun σ' H' => Pv (i + 1) σ' H', fun σ' H' q => ⟨z.cps.size - (i + 1), by omega, rfl, hlt, q⟩, fun x H' hy => ?_⟩
    obtain ⟨T, c, rfl, nT, rfl, hc⟩ := hy
    exact hs i c T σ H hc p nT
  · have ei : i = z.cps.size := by omega
    subst ei
    exact .inl ⟨Nat.le_refl _, hd σ H p⟩
end Fx
/-! == of flat lists; isinstance of built-in classes -/
namespace Fx
open PySem PySem.Spec PyProof.Rows L2
/-- None, an int, a text: two of these are equal in Python just if they are the same -/
def isF : V → Bool
  | .non => true
  | .int _ => true
  | .str x => PyData.strOk x
  | _ => false
def datV : V → PyData
  | .non => .none
  | .int i => .int i
  | .str x => .str x
  | _ => .none
theorem eqv_dat {x y : V} (hx : isF x = true) (hy : isF y = true) : PyData.eqv (datV x) (datV y) = decide (x = y) := by
  cases x <;> cases y <;> first | (exfalso; revert hx; simp [isF]; done) | (exfalso; revert hy; simp [isF]; done) | (simp [datV, PyData.eqv]; done) | (simp only [datV, PyData.eqv, V.int.injEq, V.str.injEq]; exact Bool.eq_iff_iff.mpr (by simp)) 
theorem eqvAll_dat : ∀ {xs ys : List V}, xs.all isF = true → ys.all isF = true → PyData.eqvAll (xs.map datV) (ys.map datV) = decide (xs = ys)
  | [], [], _, _ => by simp [PyData.eqvAll]
  | [], _ :: _, _, _ => by simp [PyData.eqvAll]
  | _ :: _, [], _, _ => by simp [PyData.eqvAll]
  | x :: xs, y :: ys, hx, hy => by
    simp only [List.all_cons, Bool.and_eq_true] at hx hy
    simp only [List.map_cons, PyData.eqvAll, eqv_dat hx.1 hy.1, eqvAll_dat hx.2 hy.2]
    by_cases e : x = y <;> simp [e]
theorem dp_dat {K : PySem.W.Frag} {H : Hp} {x : V} (hx : isF x = true) : Dp K H x (datV x) := by
  cases x <;> first | (exfalso; revert hx; simp [isF]; done) | exact .non | exact .int _ | exact .str _
theorem dpAll_dat {K : PySem.W.Frag} {H : Hp} : ∀ {xs : List V}, xs.all isF = true → DpAll K H xs (xs.map datV)
  | [], _ => .nil
  | x :: xs, hx => by
    simp only [List.all_cons, Bool.and_eq_true] at hx
    exact .cons (dp_dat hx.1) (dpAll_dat hx.2)
theorem lay_flat : ∀ {xs : List V}, xs.all isF = true → PyData.canLayAll0 (xs.map datV) = true ∧ PyData.depthAll (xs.map datV) = 0
  | [], _ => by simp [PyData.canLayAll0, PyData.depthAll]
  | x :: xs, hx => by
    simp only [List.all_cons, Bool.and_eq_true] at hx
    obtain ⟨h1, h2⟩ := lay_flat hx.2
    have h3 : PyData.canLay0 (datV x) = true ∧ PyData.depth (datV x) = 0 := by
      have hx1 := hx.1
      cases x <;> first | (exfalso; revert hx1; simp [isF]; done) | exact ⟨by simpa [datV, PyData.canLay0, isF] using hx1, by simp [datV, PyData.depth]⟩
    simp [PyData.canLayAll0, PyData.depthAll, h1, h2, h3.1, h3.2]
theorem shaped_flat {xs : List V} (hx : xs.all isF = true) : SeqAt.shaped (.list (xs.map datV)) = true := by
  obtain ⟨h1, h2⟩ := lay_flat hx
  simp [SeqAt.shaped, PyData.canLay0, PyData.depth, h1, h2]
def rEqL : R2 := fun x y H Q => ∃ p q xs ys, x = .ref p ∧ y = .ref q ∧ H p = some (.lst xs) ∧ H q = some (.lst ys) ∧ xs.all isF = true ∧ ys.all isF = true ∧ Q (.bl (decide (xs = ys))) H
theorem eq_LL {X : Cx} (hu : X.A.units + 64 < cLine) : OpR X (compareOp .Eq) rEqL := by
  intro pins s σ H x y v u Q I rx ry h
  obtain ⟨p, q, xs, ys, rfl, rfl, hp, hq, fx, fy, k⟩ := h
  refine op_eqD hu pins s σ H _ _ v u Q I rx ry ⟨.list (xs.map datV), .list (ys.map datV), .lst (.inl (.inl hp)) (dpAll_dat fx), .lst (.inl (.inl hq)) (dpAll_dat fy), shaped_flat fx, shaped_flat fy, ?_⟩
  rw [PyData.eqv, eqvAll_dat fx fy]
  exact k
/-- what built-in type a value is of -/
def tyv (H : Hp) : V → Option String
  | .non => some "NoneType"
  | .bl _ => some "bool"
  | .int _ => some "int"
  | .str _ => some "str"
  | .byt _ => some "bytes"
  | .ref a => (match H a with
    | some (.lst _) => some "list"
    | some (.tup _) => some "tuple"
    | some (.dK _) => some "dict"
    | some (.dT _) => some "dict"
    | _ => none)
  | _ => none
theorem tyv_ok {K : PySem.W.Frag} {H : Hp} {x : V} {t : String} (h : tyv H x = some t) : TyX K H x (.type t) := by
  cases x with
  | non => cases h; exact .base .non
  | bl b => cases h; exact .base (.bl b)
  | int i => cases h; exact .base (.int i)
  | str z => cases h; exact .base (.str z)
  | byt b => cases h; exact .byt b
  | flt b => cases h
  | ty n => cases h
  | ref a =>
    simp only [tyv] at h
    cases e : H a with
    | none => simp only [e] at h; cases h
    | some o =>
      simp only [e] at h
      cases o <;> first | (cases h; done) | (cases h; exact .base (.lst e)) | (cases h; exact .base (.tup e)) | (cases h; exact .base (.dK e)) | (cases h; exact .base (.dT e))
section
variable {H : Hp} {a : Addr} {xs : List V} {kvs : List (Key × V)}
theorem tyv_non : tyv H .non = some "NoneType" := rfl
theorem tyv_bl {b : Bool} : tyv H (.bl b) = some "bool" := rfl
theorem tyv_int {i : Int} : tyv H (.int i) = some "int" := rfl
theorem tyv_str {z : Str} : tyv H (.str z) = some "str" := rfl
theorem tyv_lst (h : H a = some (.lst xs)) : tyv H (.ref a) = some "list" := by simp only [tyv, h]
theorem tyv_tup (h : H a = some (.tup xs)) : tyv H (.ref a) = some "tuple" := by simp only [tyv, h]
theorem tyv_dK (h : H a = some (.dK kvs)) : tyv H (.ref a) = some "dict" := by simp only [tyv, h]
end
def rIsB : List V → Hp → VK → Prop := fun xs H Q => ∃ x n, xs = [x, .ty n] ∧ ∃ t, tyv H x = some t ∧ ∃ b, kitB t n = some b ∧ Q (.bl b) H
theorem is_B {X : Cx} : CallR X (.builtin "isinstance") rIsB := CallR.imp call_isi fun xs H Q ⟨x, n, e, t, ht, b, hb, q⟩ => ⟨x, .ty n, .type t, .type n, b, e, .ty n, tyv_ok ht, kit_ty hb, q⟩
theorem kb_int_int : kitB "int" "int" = some true := by decide +kernel
theorem kb_int_bool : kitB "int" "bool" = some false := by decide +kernel
theorem kb_bool_int : kitB "bool" "int" = some true := by decide +kernel
theorem kb_bool_bool : kitB "bool" "bool" = some true := by decide +kernel
theorem kb_str_str : kitB "str" "str" = some true := by decide +kernel
theorem kb_int_str : kitB "int" "str" = some false := by decide +kernel
theorem kb_bool_str : kitB "bool" "str" = some false := by decide +kernel
theorem kb_none_str : kitB "NoneType" "str" = some false := by decide +kernel
theorem kb_list_str : kitB "list" "str" = some false := by decide +kernel
theorem kb_tuple_str : kitB "tuple" "str" = some false := by decide +kernel
theorem kb_dict_str : kitB "dict" "str" = some false := by decide +kernel
theorem kb_tuple_tuple : kitB "tuple" "tuple" = some true := by decide +kernel
theorem kb_list_list : kitB "list" "list" = some true := by decide +kernel
end Fx
/-! A def whose body begins with a token out (for str.replace): with cells too -/
namespace Fx
open PySem PySem.Spec PyProof.Rows L2
section
variable {M : Model} {A : Around} {E : Value → Shared → Prop} {s₀ s : Shared} {m cm : Str → Option Value} {env : Env}
theorem stLCT {n : Str} {v : Value} {Q : Unit → Shared → Prop} (x : InCallC s₀ env.locals m env.cells cm s) (hk : env.scope.kind = .function) (hl : env.kindOf n = some .local)
    (h : ∀ s', InCallC s₀ env.locals (fun y => if y = n then some v else m y) env.cells cm s' → 1 ≤ s'.toks → Q () s') : wpAny M A (storeName env n v) Q E s := by
  refine wpAny_storeName_local hl x.toInCall.ns (fun h' hn' hs' => h _ ⟨⟨?_, hn', fun b o e => ?_, x.toInCall.fresh⟩, fun k c hc => ?_, x.apart, x.above⟩ (Nat.le_add_left _ _)) (by rw [hk]; rfl)
  · obtain ⟨h₁, tk, rfl⟩ := x.toInCall.same
    exact ⟨h', _, rfl⟩
  · exact hs'.extBut b o (Nat.ne_of_lt (Nat.lt_of_lt_of_le (Heap.lt_size e) x.toInCall.fresh)) (x.toInCall.keep b o e)
  · exact (x.cell k c hc).sameBut hs' (Nat.ne_of_gt (x.above k c (mem_of_lookup hc)))
theorem bindParamsT (f : Str × Value → PUnit → Sem (ForInStep PUnit)) (hf : ∀ n v u, f (n, v) u = (do storeName env n v; pure (.yield ⟨⟩))) (hk : env.scope.kind = .function)
    (n : Str) (v : Value) (r : List (Str × Value)) (hl : env.kindOf n = some .local) (m cm : Str → Option Value) (s : Shared) (Q : PUnit → Shared → Prop) (x : InCallC s₀ env.locals m env.cells cm s)
    (hkind : ∀ y ∈ r, env.kindOf y.1 = some .local ∨ (env.kindOf y.1 = some .cell ∧ (env.cells.lookup y.1).isSome = true))
    (h : ∀ s', InCallC s₀ env.locals (bindL env.kindOf ((n, v) :: r) m) env.cells (bindC env.kindOf ((n, v) :: r) cm) s' → 1 ≤ s'.toks → Q ⟨⟩ s') : wpAny M A (forIn ((n, v) :: r) ⟨⟩ f) Q E s := by
  rw [List.forIn_cons, hf]
  refine wpAny_bind (wpAny_bind (stLCT x hk hl fun s' x' ht => wpAny_pure ?_))
  refine wpAny_with_toks ht (wpAny_bindParams f hf hk r _ _ s' (fun u s'' => 1 ≤ s''.toks → Q u s'') x' hkind fun s'' x'' ht' => h s'' ?_ ht')
  unfold bindL bindC
  rw [if_pos hl, if_pos hl]
  exact x''
end
section
variable {M : Model} {A : Around} {E : Value → Shared → Prop} {s : Shared}
theorem newFunctionEnvT {scope : Scope} {globals : Addr} {n : Str} {v : Value} {r : List (Str × Value)} {qual : Str} {func : Option Addr} {code : Value} {builtins : Addr} {Q : Env → Shared → Prop}
    (hk : scope.kind = .function) (hl : scope.names.lookup n = some .local)
    (hkind : ∀ x ∈ r, scope.names.lookup x.1 = some .local ∨ (scope.names.lookup x.1 = some .cell ∧ ((cellsFrom (s.heap.objs.size + 1) scope.names []).lookup x.1).isSome = true))
    (hQ : ∀ env, env = newEnv scope s.heap.objs.size globals (cellsFrom (s.heap.objs.size + 1) scope.names []) qual func code none builtins →
      ∀ s', InCallC s env.locals (bindL env.kindOf ((n, v) :: r) fun _ => none) env.cells (bindC env.kindOf ((n, v) :: r) fun _ => none) s' → 1 ≤ s'.toks → Q env s') :
    wpAny M A (newFunctionEnv scope globals [] ((n, v) :: r) qual func code none builtins) Q E s := by
  simp only [newFunctionEnv, Option.isSome_none, Bool.false_eq_true, if_false]
  refine wpAny_bind (wpAny_alloc ?_)
  refine wpAny_bind (wpAny_layCells _ (fun name kind cells => by cases hkc : kind == NameKind.cell <;> simp [hkc]) _ _ _ _ ?_)
  have ok := cellsFrom_ok scope.names (s.heap.push { cls := .type "frame", data := .dict #[] }) (s.heap.objs.size + 1) [] ⟨fun _ _ hm => (nomatch hm), List.Pairwise.nil⟩ (by rw [Heap.size_push]; exact Nat.le_refl _)
  rw [Heap.size_push] at ok
  rw [show ({ s with heap := s.heap.push { cls := .type "frame", data := .dict #[] } } : Shared).heap.objs.size = s.heap.objs.size + 1 from Heap.size_push ..]
  refine wpAny_bind (bindParamsT (s₀ := s) (env := newEnv scope s.heap.objs.size globals (cellsFrom (s.heap.objs.size + 1) scope.names []) qual func code none builtins)
    _ (fun _ _ _ => rfl) hk n v r hl (fun _ => none) (fun _ => none) _ _
    ⟨⟨⟨_, _, rfl⟩, (Heap.Ns.new s.heap (.type "frame")).keeps (pushCells_keeps _ _), fun b o e => pushCells_keeps _ _ b o (Heap.get?_push_of_some _ e), Nat.le_refl _⟩,
      fun n c hc => (ok.empty n c (mem_of_lookup hc)).1, ok.apart, fun n c hm => (ok.empty n c hm).2⟩
    hkind fun s' x ht => wpAny_pure (hQ _ rfl s' x ht))
end
/-- a def's body, a token out when it begins; its first parameter is a local -/
theorem fn_ofTC {CX : CXT} {P : Program} {w : World} {K : PySem.W.Frag} {mg : Str → Option Value} {base : Heap} {k : Nat} {f : Addr} {name qual : Str} {params : Arguments} {body : List Stmt} {scope : Scope} {dV kV doc pm cdv ct oc : Value} {an od : Option Addr}
    {osl : Array (Option Value)} {N ps : List Str} {x0 : Str} {sp : Sp} (lk : K.lookup f = some ⟨oc, od, .func (PySem.W.fnOf name qual params body scope dV kV doc pm an cdv ct), osl⟩) (hcd : PySem.W.codeIn K cdv qual = true) (S : FnScope N (x0 :: ps) scope)
    (h0 : scope.names.lookup x0 = some .local) (len : ∀ vs H Q E, sp vs H Q E → vs.length = (x0 :: ps).length)
    (hbody : ∀ (A : Around) (outer : List Env) (s : Shared) (H : Hp) (vs : List V) (Q : VK) (E : XK), Room k (A.deeper (envOfC qual scope s.heap.objs.size f cdv)) → sp vs H Q E →
      ∃ t, PSsT (cxOf CX P w K mg base N qual scope f cdv A outer s H E) body t ∧ t { nx := fun _ H' => Q .non H', rt := Q } (L2.start N vs) H) :
    FnOk P w K mg base CX (k + 1) f (PySem.W.fnOf name qual params body scope dV kV doc pm an cdv ct) (x0 :: ps) sp := by
  refine ⟨len, fun A outer s H args us vs Q E hr e0 hb r hsp => ?_⟩
  have hl := len _ _ _ _ hsp
  have KX : K.In s.heap := e0.mod.kin.keeps fun b o e => (e0.bs b o e).1
  have lim : s.heap.NoLimit := e0.mod.nolimit.keeps fun b o e => (e0.bs b o e).1
  have hul : us.length = (x0 :: ps).length := by rw [← r.length, hl]
  obtain ⟨u0, ur, rfl⟩ : ∃ u0 ur, us = u0 :: ur := by
    cases us with
    | nil => cases hul
    | cons a b => exact ⟨a, b, rfl⟩
  have hkind : ∀ y ∈ ps.zip ur, scope.names.lookup y.1 = some .local ∨ (scope.names.lookup y.1 = some .cell ∧ ((cellsFrom (s.heap.objs.size + 1) scope.names []).lookup y.1).isSome = true) := fun ⟨n, v⟩ hy => by
    rcases S.par n (List.mem_cons_of_mem _ (List.of_mem_zip hy).1) with q | q
    · exact .inl q
    · exact .inr ⟨q, PySem.W.cellsFrom_some _ _ _ (.inl q)⟩
  refine codeAny_call_function hr.depth (KX _ _ lk) rfl S.co S.gen rfl (PySem.W.codeRec_of KX hcd) (hb _ _ _ _ ?_)
  show wpAny _ _ (newFunctionEnv scope _ [] ((x0, u0) :: ps.zip ur) _ _ _ _ _) _ _ _
  refine newFunctionEnvT S.kind h0 hkind fun env he s1 x ht => ?_
  subst he
  refine ⟨lim.keeps x.toInCall.keep, codeAny_func ?_⟩
  obtain ⟨t, hT, hq⟩ := hbody A outer s H vs Q E (hr.deeper _) hsp
  have I : Inv (cxOf CX P w K mg base N qual scope f cdv A outer s H E) [] (L2.start N vs) H s1 := inv_start S hr.hd e0 hl r x
  refine wpAny_mono (hT [] s1 (L2.start N vs) H _ ht I hq) (fun fl s' hs => ?_) fun e s' hs => hs
  have fin : ∀ {σ' : L2.St} {H' : Hp} {v : V} {u : Value}, Inv (cxOf CX P w K mg base N qual scope f cdv A outer s H E) [] σ' H' s' → RelV v u → Q v H' → CE outer P w H s Q u s' :=
    fun {σ' H' v u} J rv q => ⟨v, H', J.os, J.bare, J.base, J.hok, rv, q⟩
  cases fl with
  | ret u =>
    obtain ⟨v, σ', H', J, rv, q⟩ := hs
    exact fin J rv q
  | next =>
    obtain ⟨σ', H', J, q⟩ := hs
    exact fin (v := V.non) (u := Value.none) J rfl q
  | brk =>
    obtain ⟨_, _, _, q⟩ := hs
    exact False.elim q
  | cont =>
    obtain ⟨_, _, _, q⟩ := hs
    exact False.elim q
/-! ### tests, calls, slices with a token out -/
section
variable {X : Cx}
def PTT (X : Cx) (e : Expr) (t : TT) : Prop := ∀ (pins : List (Addr × Obj)) (s : Shared) (σ : L2.St) (H : Hp) (Q : Bool → Hp → Prop), 1 ≤ s.toks → Inv X pins σ H s → t σ H Q → wpAny (model X.prog X.w) X.A (isTrue e X.env (eval e X.env)) (TP X pins σ Q) X.xe s
def PWT (X : Cx) (e : Expr) (t : TT) : Prop := ∀ (whole : Sem Value) (pins : List (Addr × Obj)) (s : Shared) (σ : L2.St) (H : Hp) (Q : Bool → Hp → Prop), 1 ≤ s.toks → Inv X pins σ H s → t σ H Q → wpAny (model X.prog X.w) X.A (isTrue e X.env whole) (TP X pins σ Q) X.xe s
theorem PWT.pt {e : Expr} {t : TT} (h : PWT X e t) : PTT X e t := h _
theorem ptt_val {e : Expr} {t : TE} (h : PET X e t) (he : ∀ whole, isTrue e X.env whole = (do let v ← whole; standAt e.pos; holding [v] (truthy v)) := by intro _; rfl) : PTT X e (tB t) := by
  intro pins s σ H Q ht I hw
  refine isTrue_plain (thn (h pins s σ H _ ht I hw) fun v s1 ⟨x, H1, I1, r1, q1⟩ => ?_) (he _)
  obtain ⟨d, rfl, q⟩ := q1
  cases r1
  exact wpAny_truthy_bool ⟨H1, I1, q⟩
theorem ptt_not {a : Expr} {tA : TT} {pos : Pos} (ha : PTT X a tA) : PTT X (.UnaryOp .Not a pos) (tNot tA) := by
  intro pins s σ H Q ht I h
  exact isTrue_not (ha pins s σ H (fun c H1 => Q (!c) H1) ht I h)
theorem pwt_or1 {a : Expr} {tA : TT} {pos : Pos} (ha : PTT X a tA) : PWT X (.BoolOp .Or [a] pos) tA := by
  intro wh pins s σ H Q ht I h
  refine isTrue_or (thn (ha pins s σ H Q ht I h) fun c s1 e => ?_)
  cases c with
  | false => exact isTrue_or_nil e
  | true => exact e
theorem pwt_or {a b : Expr} {rest : List Expr} {tA tB' : TT} {pos : Pos} (ha : PT X a tA) (hb : PWT X (.BoolOp .Or (b :: rest) pos) tB') : PWT X (.BoolOp .Or (a :: b :: rest) pos) (tOr tA tB') := by
  intro wh pins s σ H Q ht I h
  refine isTrue_or (wpAny_mono (wpAny_toks_of ht (ha.run pins s σ H _ I h)) (fun c s1 z => ?_) fun _ _ z => z.2)
  obtain ⟨ht1, H1, I1, q1⟩ := z
  cases c with
  | true => exact ⟨H1, I1, q1⟩
  | false => exact hb wh pins s1 σ H1 Q ht1 I1 q1
theorem pst_ifT {c : Expr} {a b : List Stmt} {tc : TT} {t u : TS} {pos : Pos} (hc : PTT X c tc) (ha : PSs X a t) (hb : PSs X b u) : PST X (.If c a b pos) (tIfS tc t u) := by
  intro pins s σ H D ht I h
  refine wpAny_If (thn (hc pins s σ H _ ht I h) fun d s1 ⟨H1, I1, q1⟩ => ?_)
  cases d with
  | true => exact ha.run pins s1 σ H1 D I1 q1
  | false => exact hb.run pins s1 σ H1 D I1 q1
theorem psst_s {st : Stmt} {rest : List Stmt} {t u : TS} (h1 : PS X st t) (h2 : PSsT X rest u) : PSsT X (st :: rest) (tSeq t u) := psst_cons (PST.of h1) h2
def noSt : Stmt := .Pass ⟨0, 0, 0, 0⟩
theorem drop_at : ∀ (l : List Stmt) (i : Nat), i < l.length → l.drop i = l.getD i noSt :: l.drop (i + 1)
  | [], i, h => absurd h (Nat.not_lt_zero _)
  | a :: l, 0, _ => rfl
  | a :: l, i + 1, h => drop_at l i (Nat.lt_of_succ_lt_succ h)
/-- PSsT behind a structure: a def that unfolds to a ∀ is walked by the elaborator after every application -/
structure PZ (X : Cx) (l : List Stmt) (t : TS) : Prop where
  run : PSsT X l t
structure PZ1 (X : Cx) (st : Stmt) (t : TS) : Prop where
  run : PST X st t
theorem PZ.of {l : List Stmt} {t : TS} (h : PSs X l t) : PZ X l t := ⟨PSsT.of h⟩
theorem pz_at1 {l : List Stmt} {i : Nat} {t u : TS} (h : i < l.length) (h1 : PZ1 X (l.getD i noSt) t) (h2 : PZ X (l.drop (i + 1)) u) : PZ X (l.drop i) (tSeq t u) := by
  refine ⟨?_⟩
  rw [drop_at l i h]
  exact psst_cons h1.run h2.run
theorem pz_at {l : List Stmt} {i : Nat} {t u : TS} (h : i < l.length) (h1 : PS X (l.getD i noSt) t) (h2 : PZ X (l.drop (i + 1)) u) : PZ X (l.drop i) (tSeq t u) := pz_at1 h ⟨PST.of h1⟩ h2
theorem pz_at0 {l : List Stmt} {t : TS} (h : PZ X (l.drop 0) t) : PZ X l t := h
theorem pz_ifT {c : Expr} {a b : List Stmt} {tc : TT} {t u : TS} {pos : Pos} (hc : PTT X c tc) (ha : PSs X a t) (hb : PSs X b u) : PZ1 X (.If c a b pos) (tIfS tc t u) := ⟨pst_ifT hc ha hb⟩
theorem pss_at {l : List Stmt} {i : Nat} {t u : TS} (h : i < l.length) (h1 : PS X (l.getD i noSt) t) (h2 : PSs X (l.drop (i + 1)) u) : PSs X (l.drop i) (tSeq t u) := by
  rw [drop_at l i h]
  exact pss_cons h1 h2
theorem pss_at0 {l : List Stmt} {t : TS} (h : PSs X (l.drop 0) t) : PSs X l t := h
theorem pet_slice {e : Expr} {te : TE} {lo hi : Option Expr} {tl th : TO} {p2 pos : Pos} {r : V → Option Int → Option Int → Hp → VK → Prop} (hr : SlR X r) (he : PET X e te) (hl : PO X lo tl) (hu : PO X hi th) : PET X (.Subscript e (.Slice lo hi none p2) pos) (tSl r te tl th) := by
  intro pins s σ H Q ht I h
  refine Subscript_ (thn (he pins s σ H _ ht I h) fun v s1 ⟨x, H1, I1, r1, q1⟩ => ?_)
  refine wpAny_Slice (thn (hl.run pins s1 σ H1 _ I1 q1) fun vl s2 ⟨l, H2, I2, pl, q2⟩ => thn (hu.run pins s2 σ H2 _ I2 q2) fun vu s3 ⟨u, H3, I3, pu, q3⟩ => ?_)
  rw [evalPart_none]
  refine wpAny_pure ?_
  have I4 : Inv X pins σ H3 { s3 with heap := s3.heap.push { cls := .type "slice", data := .fields #[vl, vu, .none] } } := I3.kept (t' := s3.toks) fun b ob q => Heap.get?_push_of_some _ q
  obtain ⟨T, id, hT, ht, hg⟩ := hr pins { s3 with heap := s3.heap.push { cls := .type "slice", data := .fields #[vl, vu, .none] } } σ H3 x v vl vu l u s3.heap.objs.size Q I4 r1 (Heap.IsSliceOf.new ..) pl pu q3
  show wpAny (model X.prog X.w) X.A (subscriptTail e (.Slice lo hi none p2) v (.ref s3.heap.objs.size)) (EP X pins σ Q) X.xe { s3 with heap := s3.heap.push { cls := .type "slice", data := .fields #[vl, vu, .none] } }
  exact tail_any (ops := [.ref s3.heap.objs.size, v]) ht hT hg (by with_unfolding_all rfl)
theorem pet_cal {x : Str} {ps : List Str} {sp : Sp} {k : Nat} {CX : CXT} {E : XK} {e : Expr} {es : List Expr} {t : TA} {p pos : Pos} (C : Cal X.prog X.w X.K X.mg X.base CX k x ps sp) (hr : Room k X.A) (hx : Passes CX X E) (ha : PAT X (e :: es) t) (hg : Gl X x := by rfl) (hdb : (x == ("__debug__" : Str)) = false := by decide)
    (hs : (e :: es).all nostar = true := by rfl) : PET X (.Call (.Name x p) (e :: es) [] pos) (tCall sp [] E t) := by
  obtain ⟨f, fd, g, kp, b, F⟩ := C.ex
  simp only [List.all_cons, Bool.and_eq_true] at hs
  intro pins s σ H Q ht I h
  refine wpAny_Call_Name_kw (ld_glob I hg g ?_ hdb)
  refine PySem.W.callWith_K (h₀ := X.base) I.ok.mod.kin kp (thn (ha pos pins s σ H _ ht I h) fun us s1 ⟨vs, H1, I1, r, q⟩ => ⟨I1.kIn, ?_⟩) (star_ok hs.1) (back_ok hs.2)
  exact run_fn F hr b .nil hx I1 r q
end
section
variable {P : Program} {w : World} {K : PySem.W.Frag} {mg : Str → Option Value} {base : Heap} {x x0 : Str} {st : Stmt} {N ps : List Str} {k : Nat} {sp : Sp}
theorem Src.calT (S : Src K mg x st) (sc : FnScope N (x0 :: ps) (defScope st)) (bn : BindP x st (x0 :: ps)) (h0 : (defScope st).names.lookup x0 = some .local) (len : ∀ vs H Q E, sp vs H Q E → vs.length = (x0 :: ps).length)
    (hbody : ∀ (f : Addr) (cdv : Value) (A : Around) (outer : List Env) (s : Shared) (H : Hp) (vs : List V) (Q : VK) (E : XK), Room k (A.deeper (envOfC x (defScope st) s.heap.objs.size f cdv)) → sp vs H Q E →
      ∃ t, PZ (cxOf CX0 P w K mg base N x (defScope st) f cdv A outer s H E) (defBody st) t ∧ t { nx := fun _ H' => Q .non H', rt := Q } (L2.start N vs) H) : Cal P w K mg base CX0 (k + 1) x (x0 :: ps) sp := by
  obtain ⟨f, fd, g, F⟩ := S
  refine ⟨f, fd, g, F.kp, F.bindsN bn, ?_⟩
  obtain ⟨oc, od, dV, kV, doc, pm, an, cdv, ct, osl, rfl, lk, hcd, _, _⟩ := F.ex
  exact fn_ofTC lk hcd sc h0 len fun A outer s H vs Q E hr hsp => by
    obtain ⟨t, h1, h2⟩ := hbody f cdv A outer s H vs Q E hr hsp
    exact ⟨t, h1.run, h2⟩
end
/-! ### the law's own def -/
section
variable {P : Program} {w : World} {K : PySem.W.Frag} {mg : Str → Option Value} {base : Heap} {x x0 : Str} {st : Stmt} {N ps : List Str} {k : Nat} {sp : Sp} {f : Addr} {fd : FuncData}
theorem lawT (F : FunD K x x (defArgs st) (defBody st) (defScope st) [] [] f fd) (sc : FnScope N (x0 :: ps) (defScope st)) (h0 : (defScope st).names.lookup x0 = some .local) (len : ∀ vs H Q E, sp vs H Q E → vs.length = (x0 :: ps).length)
    (hbody : ∀ (f : Addr) (cdv : Value) (A : Around) (outer : List Env) (s : Shared) (H : Hp) (vs : List V) (Q : VK) (E : XK), Room k (A.deeper (envOfC x (defScope st) s.heap.objs.size f cdv)) → sp vs H Q E →
      ∃ t, PZ (cxOf CX0 P w K mg base N x (defScope st) f cdv A outer s H E) (defBody st) t ∧ t { nx := fun _ H' => Q .non H', rt := Q } (L2.start N vs) H) : FnOk P w K mg base CX0 (k + 1) f fd (x0 :: ps) sp := by
  obtain ⟨oc, od, dV, kV, doc, pm, an, cdv, ct, osl, rfl, lk, hcd, _, _⟩ := F.ex
  exact fn_ofTC lk hcd sc h0 len fun A outer s H vs Q E hr hsp => by
    obtain ⟨t, h1, h2⟩ := hbody f cdv A outer s H vs Q E hr hsp
    exact ⟨t, h1.run, h2⟩
theorem law0 (F : FunD K x x (defArgs st) (defBody st) (defScope st) [] [] f fd) (sc : FnScope N ps (defScope st)) (len : ∀ vs H Q E, sp vs H Q E → vs.length = ps.length)
    (hbody : ∀ (f : Addr) (cdv : Value) (A : Around) (outer : List Env) (s : Shared) (H : Hp) (vs : List V) (Q : VK) (E : XK), Room k (A.deeper (envOfC x (defScope st) s.heap.objs.size f cdv)) → sp vs H Q E →
      ∃ t, PSs (cxOf CX0 P w K mg base N x (defScope st) f cdv A outer s H E).nox (defBody st) t ∧ t { nx := fun _ H' => Q .non H', rt := Q } (L2.start N vs) H) : FnOk P w K mg base CX0 (k + 1) f fd ps sp := by
  refine F.ok sc len fun cdv A outer s H vs Q E hr hsp => ?_
  obtain ⟨t, h, q⟩ := hbody f cdv A outer s H vs Q E hr hsp
  exact ⟨t, h.nox, q⟩
theorem cst_int {i : Int} (h : ∃ t, mg x = some (.int i t)) : Cst mg x (.int i) := by
  obtain ⟨t, h⟩ := h
  exact ⟨_, h, ⟨t, rfl⟩⟩
theorem cst_ref {a : Addr} (h : mg x = some (.ref a)) : Cst mg x (.ref a) := ⟨_, h, rfl⟩
theorem cst_str {z : Str} (h : ∃ t, mg x = some (.str z t)) : Cst mg x (.str z) := by
  obtain ⟨t, h⟩ := h
  exact ⟨_, h, ⟨t, rfl⟩⟩
end
end Fx
/-! for i, x in enumerate(t), t a tuple; a list or a tuple -/
namespace Fx
open PySem PySem.Spec PyProof.Rows L2
open AutoSeq1 (wpAny_loadPart')
theorem enum_newT (l : Addr) (items : Array Value) (n : Nat) (dct : Option Addr) (sl : Array (Option Value)) :
    Meets (Builtin.«enumerate.__new__» ⟨[.type "enumerate", .ref l], []⟩) (fun _ R s => s.heap.get? l = some { cls := .type "tuple", dict := dct, data := .seq items n, slots := sl } ∧
      R (.ok (.ret (.ref (s.heap.push { cls := .type "tuple_iterator", data := .fields #[.ref l, .int 0 0] }).objs.size)))
        { s with heap := (s.heap.push { cls := .type "tuple_iterator", data := .fields #[.ref l, .int 0 0] }).push { cls := .type "enumerate", data := .fields #[.none, .bool false, .ref s.heap.objs.size, rawInt 0, .none, .none] } }) :=
  .of_wp fun prog w A R s h => by
    obtain ⟨hp, g, d, tk, os⟩ := s
    obtain ⟨hl, h⟩ := h
    have hsub := sub_enumerate
    have hL : Heap.IsTuple (Shared.heap ⟨hp, g, d, tk, os⟩) l items := ⟨_, hl, rfl, n, rfl⟩
    wp_walk using wpAny_loadPart' hl
    refine wpAny_stack_any fun st => wpAny_pure ?_
    split
    · rename_i c _ _ _ _ _
      cases (c == Value.type "enumerate")
      · wp_walk using wpAny_loadPart' hl, wpAny_pyIter_tuple hL
        exact ⟨_, rfl, h⟩
      · wp_walk using wpAny_loadPart' hl, wpAny_pyIter_tuple hL
        exact ⟨_, rfl, h⟩
    · wp_walk using wpAny_loadPart' hl, wpAny_pyIter_tuple hL
      exact ⟨_, rfl, h⟩
theorem call_enumT {prog : Program} {w : World} {A : Around} {E : Value → Shared → Prop} {s : Shared} {l : Addr} {items : Array Value} {Q : Value → Shared → Prop} (hL : s.heap.IsTuple l items)
    (h : ∀ h', IsEnum h' (s.heap.objs.size + 1) s.heap.objs.size 0 .none → h'.IsTupleIter s.heap.objs.size l 0 → h'.objs.size = s.heap.objs.size + 2 →
      (∀ b o, s.heap.get? b = some o → h'.get? b = some o) → Q (.ref (s.heap.objs.size + 1)) { s with heap := h' }) :
    wpAny (model prog w) A (call (.type "enumerate") [.ref l]) Q E s := by
  obtain ⟨⟨c, dct, dt, sl⟩, hl, hc, n, hd⟩ := hL
  replace hc : c = .type "tuple" := hc
  replace hd : dt = .seq items n := hd
  subst hc hd
  refine callType_new F.called_enumerate (by decide) (F.typeCall_enumerate_1 _) (F.newCall_enumerate_1 _) (fun obj => F.args_object_init_2 obj _) F.entry_enumerate_new
    (enum_newT l items n dct sl) ⟨hl, ?_⟩
  have hz : (s.heap.push { cls := .type "tuple_iterator", data := .fields #[.ref l, .int 0 0] }).objs.size = s.heap.objs.size + 1 := Heap.size_push ..
  show _ ∧ _
  rw [hz]
  have he : IsEnum ((s.heap.push { cls := .type "tuple_iterator", data := .fields #[.ref l, .int 0 0] }).push
      { cls := .type "enumerate", data := .fields #[.none, .bool false, .ref s.heap.objs.size, rawInt 0, .none, .none] }) (s.heap.objs.size + 1) s.heap.objs.size 0 .none := by
    have := Heap.get?_push_size (s.heap.push { cls := .type "tuple_iterator", data := .fields #[.ref l, .int 0 0] })
      (o := { cls := .type "enumerate", data := .fields #[.none, .bool false, .ref s.heap.objs.size, rawInt 0, .none, .none] }) rfl
    rw [hz] at this
    exact this
  exact ⟨⟨_, he, rfl⟩, h _ he ⟨_, Heap.get?_push_of_some _ (Heap.get?_push_size _ rfl), rfl, rfl⟩ (by rw [Heap.size_push, hz]) fun b o x => Heap.get?_push_of_some _ (Heap.get?_push_of_some _ x)⟩
def IteT (K : PySem.W.Frag) (a : Addr) : It :=
  ⟨fun i H => ∃ (xs : List V) (x : V), SqT K H a xs ∧ xs[i]? = some x, fun i H v H' => ∃ T x, v = .ref T ∧ H T = none ∧ H' = upd H T (.tup [.int (i : Nat), x]) ∧ ∀ xs, SqT K H a xs → xs[i]? = some x, fun i H => ∃ xs : List V, SqT K H a xs ∧ xs.length = i⟩
theorem turn_enumT {P : Program} {w : World} {K : PySem.W.Frag} {elts : List Expr} {kk : Nat} {tpos : Pos} (a e it : Addr) :
    Turn P w K (.Tuple elts kk tpos) (IteT K a) [e, it] e (fun i h => (∃ old, IsEnum h e it ((i : Nat) : Int) old) ∧ h.IsTupleIter it a i ∧ e ≠ it ∧ a ≠ e ∧ a ≠ it) where
  mem := by simp
  obj := fun i h st b hb => by
    obtain ⟨⟨old, he⟩, ⟨o, ho, hc, hd⟩, _⟩ := st
    have e' : b = e ∨ b = it := by simpa using hb
    rcases e' with z | z
    · rw [z]
      exact ⟨_, he, fun v q => nomatch q⟩
    · rw [z]
      exact ⟨o, ho, fun v q => by rw [hd] at q; cases q⟩
  keep := fun i h h' st k => let ⟨⟨old, he⟩, ⟨o, ho, hr⟩, hne⟩ := st; ⟨⟨old, k e (by simp) _ he⟩, ⟨o, k it (by simp) o ho, hr⟩, hne⟩
  item := by
    intro X hP hw hK hc i pins s σ H E I hf st hg
    subst hP hw hK
    obtain ⟨⟨old, he⟩, hit, hne, hae, hai⟩ := st
    obtain ⟨xs, x, hq, hx⟩ := hg
    obtain ⟨its, rv, p, hz⟩ := I.tuple hq
    obtain ⟨u0, hu0, ru⟩ := rv.get hx
    have hel : e < s.heap.objs.size := Heap.lt_size he
    have hil : it < s.heap.objs.size := by obtain ⟨_, q, _⟩ := hit; exact Heap.lt_size q
    have D := Draws.tuple (prog := X.prog) (w := X.w) (A := X.A.in1) (show X.A.in1.handled = none from I.ok.hd hc) it a hai its.toArray
    have hin : i < its.toArray.size := by
      have := (List.getElem?_eq_some_iff.mp hu0).1
      simpa using this
    refine wpAny_pyNext_enum_itemD D he ⟨hit, p⟩ hin hne (by simp [hne, Ne.symm hae]) fun u h' tk hu ho hit' hT hsz hk => ?_
    have eu : u = u0 := by
      have h1 : its[i]? = some u := by simpa using hu
      rw [hu0] at h1
      exact (Option.some.inj h1).symm
    subst eu
    refine ⟨_, rfl, wpAny_letOwnedTupleGo_enum (s := { s with heap := h', toks := tk + 1 }) ho fun h'' he' sb => ?_⟩
    have hT2 : h''.get? s.heap.objs.size = some { cls := .type "tuple", data := .seq #[.int i tk, u] } := (sb.2 _ (Nat.ne_of_gt hel)).trans hT
    have new : ObjOk X.prog X.w (upd H s.heap.objs.size (.tup [.int (i : Nat), x])) h'' s.heap.objs.size (.tup [.int (i : Nat), x]) :=
      ⟨by show 2 ≤ sizeLine; decide, [.int i tk, u], .cons ⟨_, rfl⟩ (.cons ru .nil), ⟨_, hT2, rfl, _, rfl⟩⟩
    have I1 : Inv X pins σ (upd H s.heap.objs.size (.tup [.int (i : Nat), x])) { s with heap := h'', toks := tk + 1 } :=
      I.turnedNew (ch := [e, it]) (fun b ob hb q => (sb.2 b (fun z => hb (by simp [z]))).trans (hk b ob (fun z => hb (by simp [z])) (fun z => hb (by simp [z])) q)) hf (Nat.le_refl _) new
    refine ⟨.ref s.heap.objs.size, _, I1, rfl, ⟨_, x, rfl, I.hok.fresh (Nat.le_refl _), rfl, fun ys hy => by rw [I.tuple_inj hy hq]; exact hx⟩, ⟨⟨u, ?_⟩, ?_, hne, hae, hai⟩, fun b hb => ?_⟩
    · have e1 : ((i + 1 : Nat) : Int) = (i : Int) + 1 := by omega
      rw [e1]
      exact he'
    · obtain ⟨⟨o, ho2, hr⟩, _⟩ := hit'
      exact ⟨o, (sb.2 it (Ne.symm hne)).trans ho2, hr⟩
    · have hb' : b < s.heap.objs.size := by
        have e' : b = e ∨ b = it := by simpa using hb
        rcases e' with z | z
        · rw [z]; exact hel
        · rw [z]; exact hil
      rw [upd_ne (Nat.ne_of_lt hb')]
      exact (hf b hb).1
  done := by
    intro X hP hw hK hc i pins s σ H E I hf st hg
    subst hP hw hK
    obtain ⟨⟨old, he⟩, hit, hne, hae, hai⟩ := st
    obtain ⟨xs, hq, hx⟩ := hg
    obtain ⟨its, rv, p, hz⟩ := I.tuple hq
    obtain ⟨f0, f1, f2, f3, f4, f5⟩ := hf it (by simp)
    have hl := rv.length
    have D := Draws.tuple (prog := X.prog) (w := X.w) (A := X.A.in1) (show X.A.in1.handled = none from I.ok.hd hc) it a hai its.toArray
    have hi : i = its.toArray.size := by
      rw [List.size_toArray]
      omega
    subst hi
    exact wpAny_pyNext_enum_endD D he ⟨hit, p⟩ fun h' eb => ⟨rfl, I.turned (t' := s.toks) (fun b o hb q => eb b o hb q) f0 f1 f3 f4 f5⟩
  self := fun A i s Q E st h => let ⟨⟨_, he⟩, _⟩ := st; wpAny_pyIter_enum he h
def iEnumT (K : PySem.W.Frag) (ta : TA) : TI := fun σ H R => ta σ H fun vs H1 => ∃ a xs, vs = [.ref a] ∧ SqT K H1 a xs ∧ R (IteT K a) H1
section
variable {X : Cx} {e : Expr} {ta : TA} {p pos tpos : Pos} {elts : List Expr} {kk : Nat}
theorem pi_enumT (hg : Gl X "enumerate") (hm : X.mg "enumerate" = none) (ha : PA X [e] ta) (hs : starEach [e] X.env = [(false, eval e X.env)] := by rfl) :
    PI X (.Tuple elts kk tpos) (.Call (.Name "enumerate" p) [e] [] pos) (iEnumT X.K ta) := by
  refine ⟨fun pins s σ H R I h => ?_⟩
  refine Call_ (ld_blt I hg hm boot_enumerate (PyProof.Rows.callWith_type1 (thn (ha.run pos pins s σ H _ I h) fun us s1 ⟨vs, H1, I1, r1, q1⟩ => ?_) hs rfl))
  obtain ⟨a, xs, ex, hq, q⟩ := q1
  subst ex
  cases r1 with
  | cons r rr =>
    cases rr
    cases r
    obtain ⟨its, rv, p', hz⟩ := I1.tuple hq
    have hla : a < s1.heap.objs.size := by
      obtain ⟨o, ho, _⟩ := p'
      exact Heap.lt_size ho
    refine call_enumT p' fun h' he hit hsz hk => wpAny_pyIter_enum he ?_
    have I2 : Inv X pins σ H1 { s1 with heap := h' } := I1.kept (t' := s1.toks) hk
    refine ⟨s1.heap.objs.size + 1, [s1.heap.objs.size + 1, s1.heap.objs.size], _, _, H1, rfl, I2, turn_enumT a (s1.heap.objs.size + 1) s1.heap.objs.size, ⟨⟨.none, he⟩, hit, Nat.succ_ne_self _, Nat.ne_of_lt (Nat.lt_succ_of_lt hla), Nat.ne_of_lt hla⟩, fun b hb => ?_, q⟩
    have e' : b = s1.heap.objs.size + 1 ∨ b = s1.heap.objs.size := by simpa using hb
    have hle : s1.heap.objs.size ≤ b := by
      rcases e' with z | z
      · rw [z]; exact Nat.le_add_right _ _
      · rw [z]; exact Nat.le_refl _
    exact I1.fpOk hle (I1.hok.fresh hle)
/-- a list or a tuple -/
def iEnumQ (K : PySem.W.Frag) (ta : TA) : TI := fun σ H R => iEnum K ta σ H R ∨ iEnumT K ta σ H R
theorem pi_enumQ (hg : Gl X "enumerate") (hm : X.mg "enumerate" = none) (ha : PA X [e] ta) (hs : starEach [e] X.env = [(false, eval e X.env)] := by rfl) :
    PI X (.Tuple elts kk tpos) (.Call (.Name "enumerate" p) [e] [] pos) (iEnumQ X.K ta) := by
  refine ⟨fun pins s σ H R I h => ?_⟩
  rcases h with h | h
  · exact (pi_enum hg hm ha hs).run pins s σ H R I h
  · exact (pi_enumT hg hm ha hs).run pins s σ H R I h
def iQ (K : PySem.W.Frag) (tl : TE) : TI := fun σ H R => iList K tl σ H R ∨ iTup K tl σ H R
theorem pi_Q {tg l : Expr} {tl : TE} (hl : PE X l tl) : PI X tg l (iQ X.K tl) := by
  refine ⟨fun pins s σ H R I h => ?_⟩
  rcases h with h | h
  · exact (pi_list hl).run pins s σ H R I h
  · exact (pi_tup hl).run pins s σ H R I h
end
/-- a list or a tuple that stands in the tracked heap -/
def Sq (H : Hp) (p : Addr) (xs : List V) : Prop := H p = some (.lst xs) ∨ H p = some (.tup xs)
theorem Sq.same {H H' : Hp} {p : Addr} {xs : List V} (h : Sq H p xs) (s : Same H H') : Sq H' p xs := by
  rcases h with h | h
  · exact .inl (s _ _ h)
  · exact .inr (s _ _ h)
section
variable {X : Cx}
def rIxQ : R2 := fun x y H Q => ∃ p i xs, x = .ref p ∧ y = .int i ∧ Sq H p xs ∧ ∃ v, atI xs i = some v ∧ Q v H
theorem ix_Q : IxR X rIxQ := by
  have h1 : IxR X rIxLt := ix_L
  have h2 : IxR X rIxTt := ix_T
  intro ve se pins s σ H x y v u Q I rx ry h hs
  obtain ⟨p, i, xs, e1, e2, hq, w, hw, q⟩ := h
  rcases hq with hq | hq
  · exact h1 ve se pins s σ H x y v u Q I rx ry ⟨p, i, xs, e1, e2, hq, w, hw, q⟩ hs
  · exact h2 ve se pins s σ H x y v u Q I rx ry ⟨p, i, xs, e1, e2, hq, w, hw, q⟩ hs
def rLenQ : List V → Hp → VK → Prop := fun vs H Q => ∃ p xs, vs = [.ref p] ∧ Sq H p xs ∧ Q (.int (xs.length : Nat)) H
theorem len_Q : CallR X (.builtin "len") rLenQ := CallR.imp call_len_seq fun vs H Q ⟨p, ys, e, h, q⟩ => ⟨p, ys, e, h.elim (fun h => .inl (.inl (.inl h))) (fun h => .inr (.inl (.inl h))), q⟩
def rTupQ : List V → Hp → VK → Prop := fun vs H Q => ∃ p xs, vs = [.ref p] ∧ Sq H p xs ∧ ∀ l H', Same H H' → H' l = some (.tup xs) → Q (.ref l) H'
theorem tup_Q : CallR X (.type "tuple") rTupQ := CallR.imp call_tuple_of fun vs H Q ⟨p, ys, e, h, q⟩ => ⟨p, ys, e, h.elim (fun h => .inl ⟨.inl (.inl h), fun l nl => q l _ (same_new nl) upd_same⟩) (fun h => .inr ⟨.inl (.inl h), q p H (Same.refl H) h⟩)⟩
def rTupL : List V → Hp → VK → Prop := fun vs H Q => ∃ p xs, vs = [.ref p] ∧ H p = some (.lst xs) ∧ ∀ l, H l = none → Q (.ref l) (upd H l (.tup xs))
theorem tup_L : CallR X (.type "tuple") rTupL := CallR.imp call_tuple_of fun vs H Q ⟨p, ys, e, h, q⟩ => ⟨p, ys, e, .inl ⟨.inl (.inl h), q⟩⟩
end
/-- the loop over enumerate(a list or a tuple) -/
theorem for_enumQ {K : PySem.W.Frag} {ta : TA} {a : Addr} {xs : List V} {g : TG} {tb : TS} {D : Ends} {σ : L2.St} {H : Hp} (hta : ∀ Q : List V → Hp → Prop, Q [.ref a] H → ta σ H Q) (hq : Sq H a xs) (Pv : Nat → L2.St → Hp → Prop) (h0 : Pv 0 σ H)
    (hl : ∀ i σ H', Pv i σ H' → ∀ o, H a = some o → H' a = some o)
    (hs : ∀ i x T σ H, xs[i]? = some x → Pv i σ H → H T = none → g (.ref T) σ (upd H T (.tup [.int (i : Nat), x])) fun σ' H' => tb { D with nx := Pv (i + 1), ct := Pv (i + 1), bk := D.nx } σ' H')
    (hd : ∀ σ H, Pv xs.length σ H → D.nx σ H) : tFor (iEnumQ K ta) g tb D σ H := by
  rcases hq with hq | hq
  · refine .inl (hta _ ⟨a, xs, rfl, .inl (.inl hq), ?_⟩)
    refine ⟨fun i m σ H' => m = xs.length - i ∧ i ≤ xs.length ∧ Pv i σ H', ⟨_, rfl, Nat.zero_le _, h0⟩, ?_⟩
    rintro i m σ H' ⟨rfl, hi, p⟩
    have hk : SqL K H' a xs := .inl (.inl (hl i σ H' p _ hq))
    by_cases hlt : i < xs.length
    · refine .inr ⟨⟨xs, xs[i], hk, by simp [hlt]⟩, fun σ' H' => Pv (i + 1) σ' H', fun σ' H' q => ⟨xs.length - (i + 1), by omega, rfl, hlt, q⟩, fun x H2 hy => ?_⟩
      obtain ⟨T, c, rfl, nT, rfl, hc⟩ := hy
      exact hs i c T σ H' (hc xs hk) p nT
    · have ei : i = xs.length := by omega
      subst ei
      exact .inl ⟨⟨xs, hk, Nat.le_refl _⟩, hd σ H' p⟩
  · refine .inr (hta _ ⟨a, xs, rfl, .inl (.inl hq), ?_⟩)
    refine ⟨fun i m σ H' => m = xs.length - i ∧ i ≤ xs.length ∧ Pv i σ H', ⟨_, rfl, Nat.zero_le _, h0⟩, ?_⟩
    rintro i m σ H' ⟨rfl, hi, p⟩
    have hk : SqT K H' a xs := .inl (.inl (hl i σ H' p _ hq))
    by_cases hlt : i < xs.length
    · refine .inr ⟨⟨xs, xs[i], hk, by simp [hlt]⟩, fun σ' H' => Pv (i + 1) σ' H', fun σ' H' q => ⟨xs.length - (i + 1), by omega, rfl, hlt, q⟩, fun x H2 hy => ?_⟩
      obtain ⟨T, c, rfl, nT, rfl, hc⟩ := hy
      exact hs i c T σ H' (hc xs hk) p nT
    · have ei : i = xs.length := by omega
      subst ei
      exact .inl ⟨⟨xs, hk, rfl⟩, hd σ H' p⟩
section
variable {X : Cx}
theorem shaped_flatT {xs : List V} (hx : xs.all isF = true) : SeqAt.shaped (.tuple (xs.map datV)) = true := by
  obtain ⟨h1, h2⟩ := lay_flat hx
  simp [SeqAt.shaped, PyData.canLay0, PyData.depth, h1, h2]
def rNeL : R2 := fun x y H Q => ∃ p q xs ys, x = .ref p ∧ y = .ref q ∧ H p = some (.lst xs) ∧ H q = some (.lst ys) ∧ xs.all isF = true ∧ ys.all isF = true ∧ Q (.bl (!decide (xs = ys))) H
def rNeT : R2 := fun x y H Q => ∃ p q xs ys, x = .ref p ∧ y = .ref q ∧ H p = some (.tup xs) ∧ H q = some (.tup ys) ∧ xs.all isF = true ∧ ys.all isF = true ∧ Q (.bl (!decide (xs = ys))) H
def rEqT : R2 := fun x y H Q => ∃ p q xs ys, x = .ref p ∧ y = .ref q ∧ H p = some (.tup xs) ∧ H q = some (.tup ys) ∧ xs.all isF = true ∧ ys.all isF = true ∧ Q (.bl (decide (xs = ys))) H
theorem ne_LL (hu : X.A.units + 64 < cLine) : OpR X (compareOp .NotEq) rNeL := by
  intro pins s σ H x y v u Q I rx ry h
  obtain ⟨p, q, xs, ys, rfl, rfl, hp, hq, fx, fy, k⟩ := h
  refine op_neD hu pins s σ H _ _ v u Q I rx ry ⟨.list (xs.map datV), .list (ys.map datV), .lst (.inl (.inl hp)) (dpAll_dat fx), .lst (.inl (.inl hq)) (dpAll_dat fy), shaped_flat fx, shaped_flat fy, ?_⟩
  rw [PyData.eqv, eqvAll_dat fx fy]
  exact k
theorem ne_TT (hu : X.A.units + 64 < cLine) : OpR X (compareOp .NotEq) rNeT := by
  intro pins s σ H x y v u Q I rx ry h
  obtain ⟨p, q, xs, ys, rfl, rfl, hp, hq, fx, fy, k⟩ := h
  refine op_neD hu pins s σ H _ _ v u Q I rx ry ⟨.tuple (xs.map datV), .tuple (ys.map datV), .tup (.inl (.inl hp)) (dpAll_dat fx), .tup (.inl (.inl hq)) (dpAll_dat fy), shaped_flatT fx, shaped_flatT fy, ?_⟩
  rw [PyData.eqv, eqvAll_dat fx fy]
  exact k
theorem eq_TT (hu : X.A.units + 64 < cLine) : OpR X (compareOp .Eq) rEqT := by
  intro pins s σ H x y v u Q I rx ry h
  obtain ⟨p, q, xs, ys, rfl, rfl, hp, hq, fx, fy, k⟩ := h
  refine op_eqD hu pins s σ H _ _ v u Q I rx ry ⟨.tuple (xs.map datV), .tuple (ys.map datV), .tup (.inl (.inl hp)) (dpAll_dat fx), .tup (.inl (.inl hq)) (dpAll_dat fy), shaped_flatT fx, shaped_flatT fy, ?_⟩
  rw [PyData.eqv, eqvAll_dat fx fy]
  exact k
theorem all_int (ns : List Int) : (ns.map V.int).all isF = true := by simp [isF]
theorem map_int_inj {a b : List Int} : a.map V.int = b.map V.int ↔ a = b := by
  constructor
  · intro h
    induction a generalizing b with
    | nil => cases b with
      | nil => rfl
      | cons y b => cases h
    | cons x a ih => cases b with
      | nil => cases h
      | cons y b =>
        simp only [List.map_cons, List.cons.injEq, V.int.injEq] at h
        rw [h.1, ih h.2]
  · intro h
    rw [h]
/-- len of a list or a tuple -/
def rMin2 : List V → Hp → VK → Prop := fun xs H Q => ∃ i j, xs = [.int i, .int j] ∧ Q (.int (if j < i then j else i)) H
theorem min_2 (hc : X.calm = true) : CallR X (.builtin "min") rMin2 := call_min2 hc
def rAnd255 : R2 := fun x y H Q => ∃ i : Int, x = .int i ∧ y = .int 255 ∧ Q (.int (i % 256)) H
theorem and_255 {X : Cx} : OpR X (binaryOp .BitAnd) rAnd255 := by
  intro pins s σ H x y v u Q I rx ry h
  obtain ⟨i, rfl, rfl, q⟩ := h
  exact op_andM pins s σ H _ _ v u Q I rx ry ⟨i, 8, rfl, rfl, q⟩
def rNonIs : R2 := fun x y H Q => y = .non ∧ Q (.bl (decide (x = .non))) H
theorem op_isNon : OpR X (compareOp .Is) rNonIs := op_isN
def rNonNot : R2 := fun x y H Q => y = .non ∧ Q (.bl (!decide (x = .non))) H
theorem op_notNon : OpR X (compareOp .IsNot) rNonNot := op_notN
def rIns : V → List V → Hp → VK → Prop := fun x vs H Q => ∃ (l : Addr) (xs : List V) (i : Int) (y : V), x = .ref l ∧ vs = [.int i, y] ∧ H l = some (.lst xs) ∧ xs.length < sizeLine ∧ 0 ≤ i ∧ i < 2 ^ 63 ∧ Q .non (upd H l (.lst (xs.take i.toNat ++ [y] ++ xs.drop i.toNat)))
theorem mt_ins : MtR X "list.insert" rIns := mt_insert
open AutoSeq1 in
theorem extend_tuple (l : Addr) (items : Array Value) (n : Nat) (b : Addr) (items2 : Array Value) (n2 : Nat) (dct : Option Addr) (sl : Array (Option Value)) (hs0 : ¬(!items.isEmpty && Builtin.List.listTooLong (items.size + items2.size)) = true) (hs1 : items.size ≤ sizeLine) (hs2 : items.size + items2.size ≤ sizeLine + 1) :
    Meets (Builtin.«list.extend» ⟨[.ref l, .ref b], []⟩) (fun _ R s => s.heap.get? l = some { cls := .type "list", dict := none, data := .seq items n, slots := #[] } ∧ s.heap.get? b = some { cls := .type "tuple", dict := dct, data := .seq items2 n2, slots := sl } ∧ R (.ok (.ret Value.none)) { s with heap := s.heap.update l (Obj.mapSeq fun x => x ++ items2), toks := s.toks }) :=
  .of_wp fun prog w A R s h => by
    obtain ⟨hp, g, d, tk, os⟩ := s
    obtain ⟨hl, hb, h⟩ := h
    have f1 := idx_int
    have f2 := AutoSeq1.sub_tuple_tuple
    have f3 := AutoSeq1.sub_list_list
    have f4 := AutoSeq1.sub_tuple_list
    have f5 := AutoSeq1.sub_list_tuple
    have hz' : (items ++ items2).size ≤ sizeLine + 1 := by rw [Array.size_append]; exact hs2
    wp_walk using (wpAny_updateSeq hl rfl (hz := hs1) (_hz' := hz')), wpAny_loadPart' hl, wpAny_loadPart' hb
    exact ⟨_, rfl, h⟩
def rExtQ : V → List V → Hp → VK → Prop := fun x vs H Q => ∃ l b xs zs, x = .ref l ∧ vs = [.ref b] ∧ H l = some (.lst xs) ∧ Sq H b zs ∧ xs.length + zs.length ≤ sizeLine ∧ Q .non (upd H l (.lst (xs ++ zs)))
theorem mt_extQ : MtM X "list.extend" rExtQ := by
  intro pins s σ H x vs v us Q I rx rv h
  obtain ⟨l, b, xs, zs, rfl, rfl, hH, hB, hz, q⟩ := h
  rcases hB with hB | hB
  · exact mt_extend pins s σ H _ _ v us Q I rx rv ⟨l, b, xs, zs, rfl, rfl, hH, hB, hz, q⟩
  cases rx
  obtain ⟨u, rfl, ru⟩ := rv.one
  cases ru
  obtain ⟨z, its, n, r, hl, e⟩ := I.lstM hH
  obtain ⟨its2, r2, ⟨⟨c2, d2, dt2, sl2⟩, e2, hc2, n2, hd2⟩, hz2⟩ := I.tuple (.inl (.inl hB))
  have hl2 := r2.length
  replace hc2 : c2 = .type "tuple" := hc2
  replace hd2 : dt2 = .seq its2.toArray n2 := hd2
  subst hc2 hd2
  have hsz : its.toArray.size + its2.toArray.size ≤ sizeLine := by rw [List.size_toArray, List.size_toArray]; omega
  have hlong : ¬ (!its.toArray.isEmpty && Builtin.List.listTooLong (its.toArray.size + its2.toArray.size)) = true := by
    rw [notLongL hsz, Bool.and_false]
    exact Bool.false_ne_true
  refine call_meets F.slot_list_extend ⟨_, e, rfl⟩ F.entry_list_extend (F.args_list_extend_2 _ _)
    (extend_tuple l its.toArray n b its2.toArray n2 d2 sl2 hlong (by rw [List.size_toArray]; omega) (by omega)) ⟨e, e2, ?_⟩
  refine ⟨.non, _, I.lset (its' := its ++ its2) hH e (by simp) (r.append r2) ?_, rfl, q⟩
  rw [List.length_append]
  omega
def rSlQ : V → Option Int → Option Int → Hp → VK → Prop := fun x lo hi H Q => ∃ a xs, x = .ref a ∧ Sq H a xs ∧ ∀ p H', Same H H' → Sq H' p (cutV xs lo hi) → Q (.ref p) H'
theorem sl_Q : SlR X rSlQ := by
  intro pins s σ H x v vl vu lo hi sl Q I rx hs pl pu h
  obtain ⟨a, xs, rfl, hx, q⟩ := h
  rcases hx with hx | hx
  · exact sl_L pins s σ H _ v vl vu lo hi sl Q I rx hs pl pu ⟨a, xs, rfl, hx, fun p np => q p _ (same_new np) (.inl upd_same)⟩
  · refine sl_tupA pins s σ H _ v vl vu lo hi sl Q I rx hs pl pu ⟨a, xs, rfl, .inl (.inl hx), fun hw => ?_, fun _ p np => q p _ (same_new np) (.inr upd_same)⟩
    have e : cutV xs lo hi = xs := by
      unfold cutV
      rw [hw.1, hw.2]
      simp
    exact q a H (Same.refl H) (by rw [e]; exact .inr hx)
end
end Fx
/-! Own classes: attribute targets, methods by promise; defs that know that no repr is under way (FnG) -/
namespace Fx
open PySem PySem.Spec PyProof.Rows L2
section
variable {X : Cx} {o : Expr} {to : TE} {f : Str} {pos : Pos}
/-- .. , o.f, .. = value -/
def gFld (K : PySem.W.Frag) (to : TE) (f : Str) : TG := fun v σ H Q => to σ H fun x H1 => ∃ a C dx fs, x = .ref a ∧ H1 a = some (.ins C dx fs) ∧ Cls K C ∧ NoAttr K C f ∧ fs.length < 1000 ∧ Q σ (upd H1 a (.ins C dx (putF f v fs)))
theorem pg_fld (ho : PE X o to) : PG X (.Attribute o f pos) (gFld X.K to f) := by
  refine ⟨fun pins s σ H v u Q I r h => ?_⟩
  rw [assign_Attribute]
  refine wpAny_bind (wpAny_holding (thn (ho.run pins s σ H _ I h) fun ov s1 ⟨x, H1, I1, r1, a, C, dx, fs, ex, ea, c, n, l, q⟩ => ?_))
  subst ex
  obtain rfl : ov = Value.ref a := r1
  refine wpAny_bind (wpAny_standAt (wpAny_bind (wpAny_holding (setattr_ok I1 ea c n l r fun s3 I3 => ?_))))
  exact wpAny_release ⟨σ, _, I3, q⟩
end
/-! ### methods, makers -/
structure CalM (P : Program) (w : World) (K : PySem.W.Frag) (mg : Str → Option Value) (base : Heap) (CX : CXT) (k : Nat) (C : Addr) (m : Str) (ps : List Str) (sp : Sp) : Prop where
  ex : ∃ f fd, Meth K C m f ∧ Binds K fd ps [] ∧ FnOk P w K mg base CX k f fd ps sp
structure CalI (P : Program) (w : World) (K : PySem.W.Frag) (mg : Str → Option Value) (base : Heap) (CX : CXT) (k : Nat) (C : Addr) (ps : List Str) (sp : Sp) : Prop where
  ex : ∃ f fd, Mk K C f ∧ Binds K fd ps [] ∧ FnOk P w K mg base CX k f fd ps sp
section
variable {X : Cx} {x : Str} {C : Addr} {ps : List Str} {sp : Sp} {k : Nat} {CX : CXT} {E : XK} {e : Expr} {es : List Expr} {t : TA} {p pos : Pos}
/-- C(e, ..) -/
theorem pe_mk (M : CalI X.prog X.w X.K X.mg X.base CX k C ps sp) (hr : Room (k + 1) X.A) (hm : X.mg x = some (.ref C)) (hx : Passes CX X E) (ha : PA X (e :: es) t) (hg : Gl X x := by rfl) (hdb : (x == ("__debug__" : Str)) = false := by decide)
    (hs : (e :: es).all nostar = true := by rfl) : PE X (.Call (.Name x p) (e :: es) [] pos) (tMake C sp [] E t) := by
  obtain ⟨f, fd, m, b, F⟩ := M.ex
  simp only [List.all_cons, Bool.and_eq_true] at hs
  exact pe_make m F hr hg hm b .nil hx ha hdb (star_ok hs.1) (back_ok hs.2)
end
/-! ### a method's body -/
abbrev BindQ (x q : Str) (st : Stmt) (ps : List Str) : Prop := ∀ (kV doc pm : Value) (an : Option Addr) (cdv ct : Value) (us : List Value), us.length = ps.length → bindArgs (PySem.W.fnOf x q (defArgs st) (defBody st) (defScope st) .none kV doc pm an cdv ct) ⟨us, []⟩ = pure (ps.zip us)
section
variable {P : Program} {w : World} {K : PySem.W.Frag} {mg : Str → Option Value} {base : Heap} {x qual : Str} {st : Stmt} {N ps : List Str} {k : Nat} {sp : Sp} {f : Addr} {fd : FuncData}
theorem ok0 (F : FunD K x qual (defArgs st) (defBody st) (defScope st) [] [] f fd) (sc : FnScope N ps (defScope st)) (len : ∀ vs H Q E, sp vs H Q E → vs.length = ps.length)
    (hbody : ∀ (f : Addr) (cdv : Value) (A : Around) (outer : List Env) (s : Shared) (H : Hp) (vs : List V) (Q : VK) (E : XK), Room k (A.deeper (envOfC qual (defScope st) s.heap.objs.size f cdv)) → sp vs H Q E →
      ∃ t, PSs (cxOf CX0 P w K mg base N qual (defScope st) f cdv A outer s H E).nox (defBody st) t ∧ t { nx := fun _ H' => Q .non H', rt := Q } (L2.start N vs) H) : FnOk P w K mg base CX0 (k + 1) f fd ps sp := by
  refine F.ok sc len fun cdv A outer s H vs Q E hr hsp => ?_
  obtain ⟨t, h, q⟩ := hbody f cdv A outer s H vs Q E hr hsp
  exact ⟨t, h.nox, q⟩
theorem okX (F : FunD K x qual (defArgs st) (defBody st) (defScope st) [] [] f fd) (sc : FnScope N ps (defScope st)) (len : ∀ vs H Q E, sp vs H Q E → vs.length = ps.length)
    (hbody : ∀ (f : Addr) (cdv : Value) (A : Around) (outer : List Env) (s : Shared) (H : Hp) (vs : List V) (Q : VK) (E : XK), Room k (A.deeper (envOfC qual (defScope st) s.heap.objs.size f cdv)) → sp vs H Q E →
      ∃ t, PSs (cxOf (L2.CX P w) P w K mg base N qual (defScope st) f cdv A outer s H E) (defBody st) t ∧ t { nx := fun _ H' => Q .non H', rt := Q } (L2.start N vs) H) : FnOk P w K mg base (L2.CX P w) (k + 1) f fd ps sp :=
  F.ok sc len fun cdv A outer s H vs Q E hr hsp => hbody f cdv A outer s H vs Q E hr hsp
end
/-! ### no repr is under way: guards = some [] -/
structure FnG (P : Program) (w : World) (K : PySem.W.Frag) (mg : Str → Option Value) (base : Heap) (CX : CXT) (k : Nat) (f : Addr) (fd : FuncData) (ps : List Str) (sp : Sp) : Prop where
  len : ∀ vs H Q E, sp vs H Q E → vs.length = ps.length
  run : ∀ (A : Around) (outer : List Env) (s : Shared) (H : Hp) (args : Args) (us : List Value) (vs : List V) (Q : VK) (E : XK), A.guards = some [] → Room k A → Env0 P w K mg base A outer s H → BindsTo s fd args (ps.zip us) → Vals vs us → sp vs H Q E →
    codeAny (model P w) A (.call (.ref f) args) (CR CX outer P w H s Q E) s
section
variable {P : Program} {w : World} {K : PySem.W.Frag} {mg : Str → Option Value} {base : Heap} {CX : CXT} {k : Nat} {f : Addr} {fd : FuncData} {N ps : List Str} {sp : Sp}
theorem FnG.of (F : FnOk P w K mg base CX k f fd ps sp) : FnG P w K mg base CX k f fd ps sp := ⟨F.len, fun A outer s H args us vs Q E _ hr e0 hb hv hs => F.run A outer s H args us vs Q E hr e0 hb hv hs⟩
/-- a def whose body may use that no repr is under way -/
theorem fn_ofG {name qual : Str} {params : Arguments} {body : List Stmt} {scope : Scope} {dV kV doc pm cdv ct oc : Value} {an od : Option Addr} {osl : Array (Option Value)}
    (lk : K.lookup f = some ⟨oc, od, .func (PySem.W.fnOf name qual params body scope dV kV doc pm an cdv ct), osl⟩) (hcd : PySem.W.codeIn K cdv qual = true) (S : FnScope N ps scope) (len : ∀ vs H Q E, sp vs H Q E → vs.length = ps.length)
    (hbody : ∀ (A : Around) (outer : List Env) (s : Shared) (H : Hp) (vs : List V) (Q : VK) (E : XK), A.guards = some [] → Room k (A.deeper (envOfC qual scope s.heap.objs.size f cdv)) → sp vs H Q E →
      ∃ t, PSs (cxOf CX P w K mg base N qual scope f cdv A outer s H E) body t ∧ t { nx := fun _ H' => Q .non H', rt := Q } (L2.start N vs) H) :
    FnG P w K mg base CX (k + 1) f (PySem.W.fnOf name qual params body scope dV kV doc pm an cdv ct) ps sp := by
  constructor
  · exact len
  intro A outer s H args us vs Q E hG hr e0 hb r hsp
  have hl := len _ _ _ _ hsp
  have kin : K.In s.heap := e0.mod.kin.keeps fun b o e => (e0.bs b o e).1
  have nol : s.heap.NoLimit := e0.mod.nolimit.keeps fun b o e => (e0.bs b o e).1
  have kinds : ∀ y ∈ ps.zip us, scope.names.lookup y.1 = some .local ∨ (scope.names.lookup y.1 = some .cell ∧ ((cellsFrom (s.heap.objs.size + 1) scope.names []).lookup y.1).isSome = true) := by
    rintro ⟨n, v⟩ hy
    rcases S.par n (List.of_mem_zip hy).1 with q | q
    · left; exact q
    · right; exact ⟨q, PySem.W.cellsFrom_some _ _ _ (.inl q)⟩
  refine codeAny_call_function hr.depth (kin _ _ lk) rfl S.co S.gen rfl (PySem.W.codeRec_of kin hcd) (hb _ _ _ _ (wpAny_newFunctionEnv_cells S.kind kinds fun env he s1 x => ?_))
  subst he
  refine ⟨nol.keeps x.toInCall.keep, codeAny_func ?_⟩
  obtain ⟨t, ht, hq⟩ := hbody A outer s H vs Q E hG (hr.deeper _) hsp
  refine wpAny_mono (ht.run [] s1 (L2.start N vs) H _ (inv_start S hr.hd e0 hl r x) hq) (fun fl s' hs => ?_) fun e s' hs => hs
  have done : ∀ {σ' : L2.St} {H' : Hp} {v : V} {u : Value}, Inv (cxOf CX P w K mg base N qual scope f cdv A outer s H E) [] σ' H' s' → RelV v u → Q v H' → CE outer P w H s Q u s' := by
    intro σ' H' v u J rv q
    exact ⟨v, H', J.os, J.bare, J.base, J.hok, rv, q⟩
  cases fl with
  | ret u => obtain ⟨v, σ', H', J, rv, q⟩ := hs; exact done J rv q
  | next => obtain ⟨σ', H', J, q⟩ := hs; exact done (v := V.non) (u := Value.none) J rfl q
  | brk => obtain ⟨_, _, _, q⟩ := hs; exact q.elim
  | cont => obtain ⟨_, _, _, q⟩ := hs; exact q.elim
end
structure CalG (P : Program) (w : World) (K : PySem.W.Frag) (mg : Str → Option Value) (base : Heap) (CX : CXT) (k : Nat) (x : Str) (ps : List Str) (sp : Sp) : Prop where
  ex : ∃ f fd, mg x = some (.ref f) ∧ PySem.W.keepIn K (.ref f) = true ∧ Binds K fd ps [] ∧ FnG P w K mg base CX k f fd ps sp
section
variable {P : Program} {w : World} {K : PySem.W.Frag} {mg : Str → Option Value} {base : Heap} {x : Str} {st : Stmt} {N ps : List Str} {k : Nat} {sp : Sp} {f : Addr} {fd : FuncData}
theorem lawG (F : FunD K x x (defArgs st) (defBody st) (defScope st) [] [] f fd) (sc : FnScope N ps (defScope st)) (len : ∀ vs H Q E, sp vs H Q E → vs.length = ps.length)
    (hbody : ∀ (f : Addr) (cdv : Value) (A : Around) (outer : List Env) (s : Shared) (H : Hp) (vs : List V) (Q : VK) (E : XK), A.guards = some [] → Room k (A.deeper (envOfC x (defScope st) s.heap.objs.size f cdv)) → sp vs H Q E →
      ∃ t, PSs (cxOf CX0 P w K mg base N x (defScope st) f cdv A outer s H E).nox (defBody st) t ∧ t { nx := fun _ H' => Q .non H', rt := Q } (L2.start N vs) H) : FnG P w K mg base CX0 (k + 1) f fd ps sp := by
  obtain ⟨oc, od, dV, kV, doc, pm, an, cdv, ct, osl, rfl, lk, hcd, _, _⟩ := F.ex
  refine fn_ofG lk hcd sc len fun A outer s H vs Q E hG hr hsp => ?_
  obtain ⟨t, h, q⟩ := hbody f cdv A outer s H vs Q E hG hr hsp
  exact ⟨t, h.nox, q⟩
theorem Src.calG (S : Src K mg x st) (sc : FnScope N ps (defScope st)) (bn : BindP x st ps) (len : ∀ vs H Q E, sp vs H Q E → vs.length = ps.length)
    (hbody : ∀ (f : Addr) (cdv : Value) (A : Around) (outer : List Env) (s : Shared) (H : Hp) (vs : List V) (Q : VK) (E : XK), A.guards = some [] → Room k (A.deeper (envOfC x (defScope st) s.heap.objs.size f cdv)) → sp vs H Q E →
      ∃ t, PSs (cxOf CX0 P w K mg base N x (defScope st) f cdv A outer s H E).nox (defBody st) t ∧ t { nx := fun _ H' => Q .non H', rt := Q } (L2.start N vs) H) : CalG P w K mg base CX0 (k + 1) x ps sp := by
  obtain ⟨f, fd, g, F⟩ := S
  exact ⟨f, fd, g, F.kp, F.bindsN bn, lawG F sc len hbody⟩
end
section
variable {X : Cx} {x : Str} {ps : List Str} {sp : Sp} {k : Nat} {CX : CXT} {E : XK} {e : Expr} {es : List Expr} {t : TA} {p pos : Pos}
/-- f(e, ..) where no repr is under way -/
theorem pe_calG (C : CalG X.prog X.w X.K X.mg X.base CX k x ps sp) (hG : X.A.guards = some []) (hr : Room k X.A) (hx : Passes CX X E) (ha : PA X (e :: es) t) (hg : Gl X x := by rfl) (hdb : (x == ("__debug__" : Str)) = false := by decide)
    (hs : (e :: es).all nostar = true := by rfl) : PE X (.Call (.Name x p) (e :: es) [] pos) (tCall sp [] E t) := by
  obtain ⟨f, fd, g, kp, b, F⟩ := C.ex
  simp only [List.all_cons, Bool.and_eq_true] at hs
  refine ⟨fun pins s σ H Q I h => wpAny_Call_Name_kw (ld_glob I hg g ?_ hdb)⟩
  refine PySem.W.callWith_K (h₀ := X.base) I.ok.mod.kin kp (thn (ha.run pos pins s σ H _ I h) fun us s1 ⟨vs, H1, I1, r, q⟩ => ⟨I1.kIn, ?_⟩) (star_ok hs.1) (back_ok hs.2)
  have q2 : sp vs H1 Q E := by
    have q' : sp (vs ++ []) H1 Q E := q
    rw [List.append_nil] at q'
    exact q'
  have hl : us.length = ps.length := by rw [← r.length]; exact F.len _ _ _ _ q2
  have hb : BindsTo s1 fd ⟨us, []⟩ (ps.zip us) := by
    have := b s1 us I1.kIn (by rw [List.append_nil]; exact hl)
    rw [List.append_nil] at this
    exact this
  refine wpAny_call (codeAny_mono (F.run X.A X.stack s1 H1 ⟨us, []⟩ us vs Q E hG hr I1.env0 hb r q2) fun r s' hq => ?_)
  cases r with
  | error e => exact hx pins σ H1 s1 e s' I1 hq
  | ok fl => cases fl with
    | ret u => exact I1.after hq
    | next => exact hq.elim
    | brk => exact hq.elim
    | cont => exact hq.elim
end
/-! ### repr of data -/
def rRepr (K : PySem.W.Frag) : List V → Hp → VK → Prop := fun xs H Q => ∃ (x : V) (d : PyData), xs = [x] ∧ Dp K H x d ∧ d.showable = true ∧ d.hasDict = false ∧ d.depth ≤ 50 ∧ d.shown.length ≤ sizeLine ∧ Q (.str d.shown) H
theorem call_reprD {X : Cx} (hG : X.A.guards = some []) (hu : X.A.units + 64 < cLine) : CallR X (.builtin "repr") (rRepr X.K) := by
  intro pins s σ H xs us Q I rx h
  obtain ⟨x, d, rfl, hd, sh, nd, dp, hz, q⟩ := h
  obtain ⟨u, rfl, ru⟩ := rx.one
  obtain ⟨as, rd⟩ := Dp.reads I d x u hd ru
  have fin : ∀ h' tk0 tk, (∀ b o, s.heap.get? b = some o → h'.get? b = some o) → EP X pins σ Q (.str d.shown tk0) { s with heap := h', toks := tk } := fun h' tk0 tk hk => ⟨.str d.shown, H, I.kept hk, ⟨_, rfl⟩, q⟩
  have tok : ∀ tk0 tk, EP X pins σ Q (.str d.shown tk0) { s with toks := tk } := fun tk0 tk => ⟨.str d.shown, H, I.tok _, ⟨_, rfl⟩, q⟩
  cases hd with
  | non => cases ru; exact P.repr_of_none (tok _ _)
  | bl b => cases ru; exact P.repr_of_bool (by cases b <;> exact tok _ _)
  | int i =>
    obtain ⟨t, rfl⟩ := ru
    exact P.repr_of_int (by simpa [PyData.showable] using sh) (tok _ _)
  | str z =>
    obtain ⟨t, rfl⟩ := ru
    exact P.repr_of_str (tok _ _) hz
  | lst h1 h2 =>
    cases ru
    exact repr_of_reads' rd sh (fun z => by rw [nd] at z; cases z) hG (by omega) (fun b o e => e) (fun h' u tk hk => fin h' u tk hk) hz
  | tup h1 h2 =>
    cases ru
    exact repr_of_reads' rd sh (fun z => by rw [nd] at z; cases z) hG (by omega) (fun b o e => e) (fun h' u tk hk => fin h' u tk hk) hz
theorem call_reprK {X : Cx} {K : PySem.W.Frag} (hK : X.K = K) (hG : X.A.guards = some []) (hu : X.A.units + 64 < cLine) : CallR X (.builtin "repr") (rRepr K) := by
  subst hK
  exact call_reprD hG hu
end Fx
/-! A law's end where the law's def knows that no repr is under way -/
namespace Fx
open PySem PySem.Spec PyProof.Rows L2
section
variable {P : Program} {w : World} {K : PySem.W.Frag} {mg mb : Str → Option Value} {CX : CXT} {k : Nat} {fa a : Addr} {fd : FuncData} {x : Str} {sp : Sp} {z : Shared} {vs : List Value} {ns : List Int}
/-- the law's call from a heap that tracks the script at most -/
theorem endG_from {H : Hp} (KX : K.In z.heap) (hns : z.heap.Ns mainGlobals mg) (hb : z.heap.Ns builtinsNs mb) (hbb : ∀ x : Str, x ≠ "__name__" → mb x = bootBuiltins x) (hlim : z.heap.NoLimit) (hg : z.gens = #[])
    (ha : z.heap.get? a = some { cls := .type "list", data := .seq vs.toArray }) (hr : Room k callerA) (F : ∀ base : Heap, K.In base → base.Ns mainGlobals mg → FnG P w K mg base CX k fa fd [x] sp)
    (hbind : ∀ (s : Shared) (u : Value), BindsTo s fd ⟨[u], []⟩ [(x, u)]) (hCX : ∀ H e s', CX [] H z (fun _ _ _ => False) e s' → False) (hO : Only H) (hp : sp [.ref a] H (fun v _ => v = .bl true) fun _ _ _ => False)
    (hok : HOk P w H z.heap) (only : ∀ b, H b ≠ none → b = a) (hK : H a ≠ none → K.lookup a = none) :
    codeAny (model P w) callerA (.call (.ref fa) ⟨[.ref a], []⟩) (fun r s' => r = .ok (.ret (.bool true)) ∧ OldK z.heap s'.heap ∧ s'.os = z.os ∧ AllBare s'.gens) z := by
  -- what is not the script is not tracked
  have free : ∀ {b : Addr}, b ≠ a → H b = none := by
    intro b hn
    cases q : H b with
    | none => rfl
    | some u => exact absurd (only b (by rw [q]; intro y; cases y)) hn
  have keepNs : ∀ {b : Addr} {m : Str → Option Value}, z.heap.Ns b m → (hidT z.heap H).Ns b m := by
    rintro b m ⟨o, es, ep, e, d, r⟩
    refine ⟨o, es, ep, hidT_get e (free ?_), d, r⟩
    intro q
    rw [q, ha] at e
    cases e
    cases (show Data.seq vs.toArray _ = Data.dict es ep from d)
  have keepK : K.In (hidT z.heap H) := by
    intro b o e
    refine hidT_get (KX b o e) ?_
    cases q : H b with
    | none => rfl
    | some u =>
      have eb := only b (by rw [q]; intro y; cases y)
      rw [eb] at e q
      rw [hK (by rw [q]; intro y; cases y)] at e
      cases e
  obtain ⟨mc, l1, l2⟩ := hlim
  have hM : Mod K mg (hidT z.heap H) := ⟨keepK, keepNs hns, ⟨mb, keepNs hb, hbb⟩, ⟨mc, keepNs l1, l2⟩⟩
  have none_ : ∀ b : Addr, b ∉ ([] : List Addr) := fun b h => by cases h
  have e0 : Env0 P w K mg (hidT z.heap H) callerA [] z H := ⟨rfl, hM, fun b o e => of_hidT e, Nat.le_of_eq (hidT_size _ _), trivial, fun b q => absurd (show b ∈ ([] : List Addr) from q) (none_ b), hok, .of_eq hg⟩
  have run := (F _ keepK (keepNs hns)).run callerA [] z H ⟨[.ref a], []⟩ [.ref a] [.ref a] _ _ rfl hr e0 (hbind z (.ref a)) (.cons rfl .nil) hp
  refine codeAny_mono run fun r s' h => ?_
  match r, h with
  | .error e, h => exact (hCX H e s' h).elim
  | .ok .next, h => exact h.elim
  | .ok .brk, h => exact h.elim
  | .ok .cont, h => exact h.elim
  | .ok (.ret u), h =>
    obtain ⟨v, H', os, bare, un, hok', ru, qv⟩ := h
    have ev : v = .bl true := qv
    rw [ev] at ru
    obtain rfl : u = Value.bool true := ru
    refine ⟨rfl, OldK.of_keep fun b o e => ?_, os, bare⟩
    rcases hO b with f | ⟨ob, xs, f⟩
    · exact un.keep b o e f (by intro y; exact absurd (show b ∈ ([] : List Addr) from y) (none_ b)) (by simp)
    · have e1 := (hok b _ f).1
      have e2 := (hok' b _ (un.frzs b ob _ f)).1
      rw [e] at e1
      cases e1
      exact e2
end
theorem walk_ofG {l : PySem.W.OpenLaw} {n k : Nat} {q : Program} {loose : List Str} {XP : (Str → Option Value) → Heap → Prop} {YP : World → Heap → Prop} {d : DefRec} {x : Str}
    (hn : l.most = some n) (hn2 : n ≤ sizeLine) (hdf : d.params.defaults = []) (hr : Room k callerA)
    (F : ∀ (w : World) (mg : Str → Option Value) (fa : Addr) (h : Heap), YP w h → h.Ns mainGlobals mg → mg d.name = some (.ref fa) →
      ∃ (K : PySem.W.Frag) (fd : FuncData) (sp : Sp), K.In h ∧ (∀ (s : Shared) (u : Value), BindsTo s fd ⟨[u], []⟩ [(x, u)]) ∧
        (∀ (H : Hp) (a : Addr) (ns : List Int), ns.length ≤ n → SqL K H a (ns.map V.int) → sp [.ref a] H (fun v _ => v = .bl true) fun _ _ _ => False) ∧
        ∀ base : Heap, K.In base → base.Ns mainGlobals mg → FnG l.prog w K mg base CX0 k fa fd [x] sp) :
    PySem.W.WalkO q loose XP YP l.row.toRowW d [] (fun f vs => PySem.call f vs) := by
  refine Att.attach_call hn hdf fun w s₀ z mg mb fa o pm cd doc a vs ns G Y ho hd hcd hmg hobj hints hlen hg => ?_
  obtain ⟨K, fd, sp, KX, hb, hsp, hF⟩ := F w mg fa _ Y G.T.g hmg
  have rv := vals_ints hints
  have lv := hints.length
  have hl : ns.length ≤ sizeLine := Nat.le_trans hlen hn2
  have go : ∀ H : Hp, Only H → SqL K H a (ns.map V.int) → HOk l.prog w H z.heap → (∀ b, H b ≠ none → b = a) → (H a ≠ none → K.lookup a = none) → _ := fun H hO hS hok only hK =>
    endG_from KX G.T.g G.T.b G.T.builtins G.T.nolimit hg hobj hr hF hb (fun _ _ _ y => y) hO (hsp H a ns hlen hS) hok only hK
  cases hk : K.lookup a with
  | some o =>
    have e := KX a o hk
    rw [hobj] at e
    cases e
    have hS : SqL K (fun _ => none) a (ns.map V.int) := .inr ⟨_, vs.toArray, _, hk, rfl, rfl, rfl, (by rw [List.size_toArray, lv]; exact hl), by simpa using rv⟩
    exact go (fun _ => none) (fun _ => .inl rfl) hS (fun b u y => by cases (show (none : Option HO) = some u from y)) (fun b y => absurd rfl y) (fun y => absurd rfl y)
  | none =>
    let o0 : Obj := { cls := .type "list", data := .seq vs.toArray }
    let H0 : Hp := fun b => if b = a then some (.frz o0 (.lst (ns.map V.int))) else none
    have at_ : H0 a = some (.frz o0 (.lst (ns.map V.int))) := if_pos rfl
    have off : ∀ {b : Addr}, b ≠ a → H0 b = none := fun h => if_neg h
    refine go H0 (fun b => ?_) (.inl (.inr ⟨o0, at_⟩)) (fun b u y => ?_) (fun b y => ?_) fun _ => hk
    · by_cases e : b = a
      · rw [e]
        exact .inr ⟨_, _, at_⟩
      · exact .inl (off e)
    · by_cases e : b = a
      · rw [e, at_] at y
        cases y
        rw [e]
        exact ⟨hobj, by rw [List.length_map]; exact hl, vs, _, rv, hobj⟩
      · rw [off e] at y
        cases y
    · by_cases e : b = a
      · exact e
      · exact absurd (off e) y
end Fx
/-! text.ljust(n, sign), sign.join(a tracked list), is True, a module's tuple of tuples -/
namespace Fx
open PySem PySem.Spec PyProof.Rows L2
section
variable {X : Cx}
def rLj : V → List V → Hp → VK → Prop := fun x xs H Q => ∃ (a f : Str) (i : Int), x = .str a ∧ xs = [.int i, .str f] ∧ PadOk i = true ∧ f.length = 1 ∧ Q (.str (Txt.ljustF a i (f.cps.getD 0 0))) H
theorem mt_lj : MtR X "str.ljust" rLj := by
  intro pins s σ H x xs v us Q I rx rs h
  obtain ⟨a, f, i, rfl, rfl, hp, hf, q⟩ := h
  obtain ⟨t, rfl⟩ := rx
  obtain ⟨u1, u2, rfl, r1, r2⟩ := rs.two
  obtain ⟨t1, rfl⟩ := r1
  obtain ⟨t2, rfl⟩ := r2
  exact ljust_fill hp hf fun t' k => ⟨.str _, H, I.tok _, ⟨_, rfl⟩, q⟩
def rJn : V → List V → Hp → VK → Prop := fun x xs H Q => ∃ (a : Str) (p : Addr) (ys : List Str), x = .str a ∧ xs = [.ref p] ∧ H p = some (.lst (ys.map V.str)) ∧ (ys.map (·.length)).sum + ys.length * a.length ≤ 16777216 ∧ Q (.str (Txt.join a ys)) H
theorem mt_jn : MtR X "str.join" rJn := by
  intro pins s σ H x xs v us Q I rx rs h
  obtain ⟨a, p, ys, e1, e2, hp, hz, q⟩ := h
  exact mt_join pins s σ H x xs v us Q I rx rs ⟨a, p, ys, e1, e2, .inl (.inl (.inl hp)), hz, q⟩
def rIsBl : R2 := fun x y H Q => ∃ a b, x = .bl a ∧ y = .bl b ∧ Q (.bl (decide (a = b))) H
theorem op_isBo : OpR X (compareOp .Is) rIsBl := op_is_bl
def rNoBl : R2 := fun x y H Q => ∃ a b, x = .bl a ∧ y = .bl b ∧ Q (.bl (!decide (a = b))) H
theorem op_noBo : OpR X (compareOp .IsNot) rNoBl := op_isnot_bl
end
/-! ### a module's tuple of tuples of numbers -/
def tupI (K : PySem.W.Frag) (v : Value) (r : List Int) : Bool := match v with
  | .ref a => (match K.lookup a with
    | some ⟨.type c, _, .seq its _, _⟩ => decide (c = "tuple") && (decide (its.size ≤ sizeLine) && He.relAll (r.map V.int) its.toList)
    | _ => false)
  | _ => false
def tupIs (K : PySem.W.Frag) : List Value → List (List Int) → Bool
  | [], [] => true
  | v :: vs, r :: rs => tupI K v r && tupIs K vs rs
  | _, _ => false
def tupsB (K : PySem.W.Frag) (x : Str) (rows : List (List Int)) : Bool := match K.lookup (He.ga K x) with
  | some ⟨.type c, _, .seq its _, _⟩ => decide (c = "tuple") && (decide (its.size ≤ sizeLine) && tupIs K its.toList rows)
  | _ => false
theorem tupI_ok {K : PySem.W.Frag} {v : Value} {r : List Int} (h : tupI K v r = true) : ∃ a, v = .ref a ∧ ∀ H, SqT K H a (r.map V.int) := by
  cases v with
  | ref a =>
    refine ⟨a, rfl, fun H => ?_⟩
    unfold tupI at h
    dsimp only at h
    cases q : K.lookup a with
    | none => rw [q] at h; cases h
    | some o =>
      obtain ⟨oc, od, dt, osl⟩ := o
      rw [q] at h
      cases oc with
      | type c =>
        cases dt with
        | seq its n =>
          obtain ⟨h1, h2⟩ := He.ba (show (decide (c = "tuple") && (decide (its.size ≤ sizeLine) && He.relAll (r.map V.int) its.toList)) = true from h)
          obtain ⟨h3, h4⟩ := He.ba h2
          exact .inr ⟨_, its, n, q, congrArg Value.type (of_decide_eq_true h1), rfl, of_decide_eq_true h3, He.relAll_ok h4⟩
        | _ => cases h
      | _ => cases dt <;> cases h
  | _ => cases h
theorem tupIs_ok {K : PySem.W.Frag} : ∀ {vs : List Value} {rs : List (List Int)}, tupIs K vs rs = true → ∃ as : List Addr, Vals (as.map V.ref) vs ∧ ∀ (i : Nat) (r : List Int), rs[i]? = some r → ∃ a, as[i]? = some a ∧ ∀ H, SqT K H a (r.map V.int)
  | [], [], _ => ⟨[], .nil, fun i r h => by simp at h⟩
  | v :: vs, r :: rs, h => by
    obtain ⟨h1, h2⟩ := He.ba (show (tupI K v r && tupIs K vs rs) = true from h)
    obtain ⟨a, rfl, ha⟩ := tupI_ok h1
    obtain ⟨as, hv, hr⟩ := tupIs_ok h2
    refine ⟨a :: as, .cons rfl hv, fun i r' hi => ?_⟩
    cases i with
    | zero =>
      have e : r = r' := by simpa using hi
      exact ⟨a, rfl, e ▸ ha⟩
    | succ i =>
      obtain ⟨b, hb, hs⟩ := hr i r' (by simpa using hi)
      exact ⟨b, by simpa using hb, hs⟩
  | [], _ :: _, h => by cases h
  | _ :: _, [], h => by cases h
theorem tupsB_ok {K : PySem.W.Frag} {x : Str} {rows : List (List Int)} (h : tupsB K x rows = true) : ∃ as : List Addr, (∀ H, SqT K H (He.ga K x) (as.map V.ref)) ∧ ∀ (i : Nat) (r : List Int), rows[i]? = some r → ∃ a, as[i]? = some a ∧ ∀ H, SqT K H a (r.map V.int) := by
  unfold tupsB at h
  cases q : K.lookup (He.ga K x) with
  | none => rw [q] at h; cases h
  | some o =>
    obtain ⟨oc, od, dt, osl⟩ := o
    rw [q] at h
    cases oc with
    | type c =>
      cases dt with
      | seq its n =>
        obtain ⟨h1, h2⟩ := He.ba (show (decide (c = "tuple") && (decide (its.size ≤ sizeLine) && tupIs K its.toList rows)) = true from h)
        obtain ⟨h3, h4⟩ := He.ba h2
        obtain ⟨as, hv, hr⟩ := tupIs_ok h4
        exact ⟨as, fun H => .inr ⟨_, its, n, q, congrArg Value.type (of_decide_eq_true h1), rfl, of_decide_eq_true h3, hv⟩, hr⟩
      | _ => cases h
    | _ => cases dt <;> cases h
/-! ### loops over a text's signs -/
theorem for_S {z : Str} {g : TG} {tb : TS} {D : Ends} {σ : L2.St} {H : Hp} (Pv : Nat → L2.St → Hp → Prop) (h0 : Pv 0 σ H)
    (hs : ∀ i c σ H, z.cps.toList[i]? = some c → Pv i σ H → g (.str ⟨#[c]⟩) σ H fun σ2 H2 => tb { D with nx := Pv (i + 1), ct := Pv (i + 1), bk := D.nx } σ2 H2) (hd : ∀ σ H, Pv z.cps.toList.length σ H → D.nx σ H) :
    ∃ W : Nat → Nat → L2.St → Hp → Prop, (∃ m, W 0 m σ H) ∧ ∀ i m σ H, W i m σ H →
      ((Its z).stop i H ∧ D.nx σ H) ∨ ((Its z).go i H ∧ ∃ N : L2.St → Hp → Prop, (∀ σ' H', N σ' H' → ∃ m', m' < m ∧ W (i + 1) m' σ' H') ∧ ∀ x H', (Its z).yld i H x H' → g x σ H' fun σ2 H2 => tb { D with nx := N, ct := N, bk := D.nx } σ2 H2) := by
  refine ⟨fun i m σ H => m = z.cps.size - i ∧ i ≤ z.cps.size ∧ Pv i σ H, ⟨_, rfl, Nat.zero_le _, h0⟩, ?_⟩
  rintro i m σ H ⟨rfl, hi, p⟩
  by_cases hlt : i < z.cps.size
  · refine .inr ⟨hlt, fun σ' H' => Pv (i + 1) σ' H', fun σ' H' q => ⟨z.cps.size - (i + 1), by omega, rfl, hlt, q⟩, fun x H' hy => ?_⟩
    obtain ⟨rfl, c, hc, rfl⟩ := hy
    exact hs i c σ H' (by rw [Array.getElem?_toList]; exact hc) p
  · have ei : i = z.cps.size := by omega
    subst ei
    exact .inl ⟨Nat.le_refl _, hd σ H (by rw [Array.length_toList]; exact p)⟩
theorem lc_S {z : Str} {g : TG} {tt : TT} {te : TE} {vs : List Nat} {σ : L2.St} {H1 : Hp} {D : Addr} {Qd : Hp → Prop} (Pv : Nat → Hp → Prop) (h0 : Pv 0 (upd H1 D (.lst [])))
    (hs : ∀ i c H, z.cps.toList[i]? = some c → Pv i H → g (.str ⟨#[c]⟩) (wipe σ vs) H fun σ2 H2 => wipe σ2 vs = wipe σ vs ∧ tt σ2 H2 fun b H3 =>
      if b = true then te σ2 H3 fun y H4 => ∃ acc, H4 D = some (.lst acc) ∧ acc.length < sizeLine ∧ Pv (i + 1) (upd H4 D (.lst (acc ++ [y]))) else Pv (i + 1) H3) (hd : ∀ H, Pv z.cps.toList.length H → Qd H) :
    ∃ W : Nat → Nat → Hp → Prop, (∃ m, W 0 m (upd H1 D (.lst []))) ∧ ∀ i m H, W i m H →
      ((Its z).stop i H ∧ Qd H) ∨ ((Its z).go i H ∧ ∃ Nx : Hp → Prop, (∀ H', Nx H' → ∃ m', m' < m ∧ W (i + 1) m' H') ∧ ∀ x H', (Its z).yld i H x H' → g x (wipe σ vs) H' fun σ2 H2 => wipe σ2 vs = wipe σ vs ∧ tt σ2 H2 fun b H3 =>
        if b = true then te σ2 H3 fun y H4 => ∃ acc, H4 D = some (.lst acc) ∧ acc.length < sizeLine ∧ Nx (upd H4 D (.lst (acc ++ [y]))) else Nx H3) := by
  refine ⟨fun i m H => m = z.cps.size - i ∧ i ≤ z.cps.size ∧ Pv i H, ⟨_, rfl, Nat.zero_le _, h0⟩, ?_⟩
  rintro i m H ⟨rfl, hi, p⟩
  by_cases hlt : i < z.cps.size
  · refine .inr ⟨hlt, fun H' => Pv (i + 1) H', fun H' q => ⟨z.cps.size - (i + 1), by omega, rfl, hlt, q⟩, fun x H' hy => ?_⟩
    obtain ⟨rfl, c, hc, rfl⟩ := hy
    exact hs i c H' (by rw [Array.getElem?_toList]; exact hc) p
  · have ei : i = z.cps.size := by omega
    subst ei
    exact .inl ⟨Nat.le_refl _, hd H (by rw [Array.length_toList]; exact p)⟩
theorem mem_sign {c : Nat} {z : Str} {p : Prop} (h : (c ∈ z.cps.toList) = p) : (c ∈ z.cps.toList) = p := h
/-- ''.join -/
theorem join0_list : ∀ ys : List Str, (Txt.join "" ys).cps.toList = (ys.map fun y => y.cps.toList).flatten
  | [] => rfl
  | y :: ys => by
    have key : ∀ (l : List Str) (acc : Array Nat), (l.foldl (fun acc p => acc ++ (("" : Str)).cps ++ p.cps) acc).toList = acc.toList ++ (l.map fun y => y.cps.toList).flatten := by
      intro l
      induction l with
      | nil => intro acc; simp
      | cons a l ih =>
        intro acc
        rw [List.foldl_cons, ih]
        have e : (("" : Str)).cps = #[] := rfl
        rw [e]
        simp
    exact key ys y.cps
mutual
theorem dp_mono {K : PySem.W.Frag} {H H' : Hp} (hl : ∀ a xs, SqL K H a xs → SqL K H' a xs) (ht : ∀ a xs, SqT K H a xs → SqT K H' a xs) : ∀ (d : PyData) (v : V), Dp K H v d → Dp K H' v d
  | .none, _, h => by cases h; exact .non
  | .bool b, _, h => by cases h; exact .bl b
  | .int i, _, h => by cases h; exact .int i
  | .str x, _, h => by cases h; exact .str x
  | .list ds, _, h => by
    cases h with
    | lst hs ha => exact .lst (hl _ _ hs) (dp_monoAll hl ht ds _ ha)
  | .tuple ds, _, h => by
    cases h with
    | tup hs ha => exact .tup (ht _ _ hs) (dp_monoAll hl ht ds _ ha)
  | .dict _, _, h => by cases h
theorem dp_monoAll {K : PySem.W.Frag} {H H' : Hp} (hl : ∀ a xs, SqL K H a xs → SqL K H' a xs) (ht : ∀ a xs, SqT K H a xs → SqT K H' a xs) : ∀ (ds : List PyData) (vs : List V), DpAll K H vs ds → DpAll K H' vs ds
  | [], _, h => by cases h; exact .nil
  | d :: ds, _, h => by
    cases h with
    | cons h1 h2 => exact .cons (dp_mono hl ht d _ h1) (dp_monoAll hl ht ds _ h2)
end
theorem rd_keep {H H' : Hp} {b a : Addr} {o : HO} (hk : ∀ a o, a ≠ b → H a = some o → H' a = some o) (hb : ∃ kvs, H b = some (.dK kvs)) (no : ∀ kvs, o ≠ .dK kvs) (h : Rd H a o) : Rd H' a o := by
  obtain ⟨kvs, hb⟩ := hb
  rcases h with h | ⟨ob, h⟩
  · refine .inl (hk a o (fun e => ?_) h)
    rw [e, hb] at h
    exact no kvs (Option.some.inj h).symm
  · refine .inr ⟨ob, hk a _ (fun e => ?_) h⟩
    rw [e, hb] at h
    cases h
theorem dp_same {K : PySem.W.Frag} {H H' : Hp} {d : PyData} {v : V} (s : Same H H') (h : Dp K H v d) : Dp K H' v d := by
  refine dp_mono (fun _ _ q => s.seq q) (fun a xs q => ?_) d v h
  rcases q with (q | ⟨ob, q⟩) | q
  · exact .inl (.inl (s _ _ q))
  · exact .inl (.inr ⟨ob, s _ _ q⟩)
  · exact .inr q
theorem dp_kp {K : PySem.W.Frag} {b : Addr} {H H' : Hp} {d : PyData} {v : V} (B : Bag H b) (k : Kp b H H') (h : Dp K H v d) : Dp K H' v d := by
  refine dp_mono (fun a xs q => ?_) (fun a xs q => ?_) d v h
  · rcases q with q | q
    · exact .inl (rd_keep k.keep B.some (fun _ e => by cases e) q)
    · exact .inr q
  · rcases q with q | q
    · exact .inl (rd_keep k.keep B.some (fun _ e => by cases e) q)
    · exact .inr q
/-- data that repr shows -/
structure Shw (K : PySem.W.Frag) (H : Hp) (v : V) (d : PyData) : Prop where
  dp : Dp K H v d
  sh : d.showable = true
  nd : d.hasDict = false
  dep : d.depth ≤ 50
  len : d.shown.length ≤ sizeLine
  ok : isF (.str d.shown) = true
theorem Shw.same {K : PySem.W.Frag} {H H' : Hp} {d : PyData} {v : V} (s : Same H H') (h : Shw K H v d) : Shw K H' v d := ⟨dp_same s h.dp, h.sh, h.nd, h.dep, h.len, h.ok⟩
theorem Shw.kp {K : PySem.W.Frag} {b : Addr} {H H' : Hp} {d : PyData} {v : V} (B : Bag H b) (k : Kp b H H') (h : Shw K H v d) : Shw K H' v d := ⟨dp_kp B k h.dp, h.sh, h.nd, h.dep, h.len, h.ok⟩
end Fx
/-! x == y by an own __eq__; own methods and makers in a try's body; a def that is given the caught error -/
namespace Fx
open PySem PySem.Spec PyProof.Rows L2
section
variable {X : Cx} {CX : CXT} {k : Nat} {C : Addr} {ps : List Str} {sp : Sp} {E : XK}
/-- x == y, both of the class at C -/
def rOwnEq (C : Addr) (sp : Sp) (E : XK) : R2 := fun x y H Q => ∃ a b dx dy fs gs, x = .ref a ∧ y = .ref b ∧ H a = some (.ins C dx fs) ∧ H b = some (.ins C dy gs) ∧ sp [.ref a, .ref b] H (fun v H' => ∃ r, v = .bl r ∧ Q (.bl r) H') E
theorem op_eqOwn (M : CalM X.prog X.w X.K X.mg X.base CX k C "__eq__" ps sp) (hr : Room k X.A) (hx : Passes CX X E) : OpR X (compareOp .Eq) (rOwnEq C sp E) := by
  intro pins s σ H x y v u Q I rx ry hq
  obtain ⟨f, fd, m, b, F⟩ := M.ex
  obtain ⟨a, c, dx, dy, fs, gs, rfl, rfl, ha, hc, hsp⟩ := hq
  cases rx
  cases ry
  obtain ⟨mA, J, _⟩ := ins_get I.hok ha
  obtain ⟨mB, J', _⟩ := ins_get I.hok hc
  obtain ⟨od, J, _⟩ := J.look
  obtain ⟨od', J', _⟩ := J'.look
  obtain ⟨mm, hF⟩ := I.fr
  show wpAny (model X.prog X.w) X.A (richCompare .Eq (.ref a) (.ref c)) (EP X pins σ Q) X.xe s
  refine PySem.W.cmp_K (op := .Eq) (tb := .ref C) hr.units0 hF I.ok.mod.kin J J'.type (by simp [PySem.W.notFirst]) m.at_ m.fn ?_
  refine wpAny_mono (run_fn (us := [.ref a, .ref c]) (vs := [.ref a, .ref c]) (ds := []) (dvs := []) (Q := fun v H' => ∃ r, v = .bl r ∧ Q (.bl r) H') F hr b .nil hx I (.cons rfl (.cons rfl .nil)) hsp) (fun v s' hv => ?_) fun _ _ z => z
  obtain ⟨z, H', I', rz, r, rfl, q⟩ := hv
  cases rz
  exact ⟨.bl r, H', I', rfl, q⟩
end
/-! ### in a try's body -/
section
variable {X : Cx} {k : Nat} {f C : Addr} {fd : FuncData} {ps : List Str} {sp : Sp} {W : WX} {x m : Str} {p pos apos : Pos} {e o : Expr} {es : List Expr} {ta : TE} {t : TA}
def tMethT (C : Addr) (m : Str) (sp : Sp) (E : L2.St → XK) (ta : TE) (t : TA) : TE := fun σ H Q => ta σ H fun x H1 => ∃ a dx fs, x = .ref a ∧ H1 a = some (.ins C dx fs) ∧ fs.lookup m = none ∧ t σ H1 fun vs H2 => sp (x :: vs) H2 Q (E σ)
theorem pe_methT {pl : Sem Bool} (he : PE X o ta) (c : Cls X.K C) (hm : Meth X.K C m f) (F : FnOk X.prog X.w X.K X.mg X.base (L2.CX X.prog X.w) k f fd ps sp) (hr : Room k X.A) (hb : Binds X.K fd ps []) (tk : Takes X W) (ha : PA X (e :: es) t)
    (hst : starEach (e :: es) X.env = (false, eval e X.env) :: starEach es X.env := by rfl) (hpl : (backTo pos (starEach es X.env)).any (·.1) = false := by rfl)
    (ht : eval (.Call (.Attribute o m apos) (e :: es) [] pos) X.env = (do
      let ov ← eval o X.env
      standAt apos.atName
      let (f, first) ← holding [ov] (getMethod ov m pl)
      callWith pos f first (backTo pos (starEach (e :: es) X.env)) (backToKw pos (keywordEach [] X.env))) := by rfl) :
    PE X (.Call (.Attribute o m apos) (e :: es) [] pos) (tMethT C m sp (WE W) ta t) := by
  refine ⟨fun pins s σ H Q I h => ?_⟩
  refine PySem.W.methodCall_KW (pl := pl) (thn (he.run pins s σ H _ I h) fun u s1 ⟨x, H1, I1, rx, a, dx, fs, ex, ea, l, q⟩ => ?_) ht
  subst ex
  obtain rfl : u = Value.ref a := rx
  refine getmeth_ok I1 ea c hm l ?_
  refine PySem.W.callWith_K (first := [.ref a]) (h₀ := X.base) I.ok.mod.kin hm.kp (thn (ha.run pos pins s1 σ H1 _ I1 q) fun us s2 ⟨vs, H2, I2, r, q2⟩ => ⟨I2.kIn, ?_⟩) hst hpl
  exact run_fnS (us := .ref a :: us) (vs := .ref a :: vs) (E := WE W) F hr hb (passAt tk σ) I2 (.cons rfl r) q2
/-- C(..) -/
def tMakeT (C : Addr) (sp : Sp) (E : L2.St → XK) (t : TA) : TE := fun σ H Q => t σ H fun vs H1 => ∀ x dx, H1 x = none → H1 dx = none → dx ≠ x →
  sp (.ref x :: vs) (upd (upd H1 dx (.own x)) x (.ins C dx [])) (fun v H2 => v = .non ∧ Q (.ref x) H2) (E σ)
theorem pe_mkT (M : CalI X.prog X.w X.K X.mg X.base (L2.CX X.prog X.w) k C ps sp) (hr : Room (k + 1) X.A) (hm : X.mg x = some (.ref C)) (tk : Takes X W) (ha : PA X (e :: es) t) (hg : Gl X x := by rfl) (hdb : (x == ("__debug__" : Str)) = false := by decide)
    (hs : (e :: es).all nostar = true := by rfl) : PE X (.Call (.Name x p) (e :: es) [] pos) (tMakeT C sp (WE W) t) := by
  obtain ⟨f, fd, m, b, F⟩ := M.ex
  simp only [List.all_cons, Bool.and_eq_true] at hs
  refine ⟨fun pins s σ H Q I h => ?_⟩
  refine wpAny_Call_Name_kw (ld_glob I hg hm ?_ hdb)
  refine PySem.W.callWith_K (h₀ := X.base) I.ok.mod.kin m.kp (thn (ha.run pos pins s σ H _ I h) fun us s1 ⟨vs, H1, I1, r, q⟩ => ⟨I1.kIn, ?_⟩) (star_ok hs.1) (back_ok hs.2)
  have hq := q (s1.heap.objs.size + 1) s1.heap.objs.size (I1.hok.fresh (Nat.le_succ _)) (I1.hok.fresh (Nat.le_refl _)) (Nat.ne_of_lt (Nat.lt_succ_self _))
  have I2 := Inv.made (C := C) I1
  have r2 : Vals (V.ref (s1.heap.objs.size + 1) :: vs) (Value.ref (s1.heap.objs.size + 1) :: us) := .cons rfl r
  have hl : (Value.ref (s1.heap.objs.size + 1) :: us).length = ps.length := by
    have e := r2.length
    rw [F.len _ _ _ _ hq] at e
    exact e.symm
  have b2 := b _ (Value.ref (s1.heap.objs.size + 1) :: us) I2.kIn (by rw [List.append_nil]; exact hl)
  rw [List.append_nil] at b2
  refine wpAny_call (make_map (f := f) I1.kIn m.makes m.init (beq_iff_eq.mp m.fn) (codeAny_mono (F.run _ X.stack _ _ ⟨Value.ref (s1.heap.objs.size + 1) :: us, []⟩ (Value.ref (s1.heap.objs.size + 1) :: us) _ _ (WE W σ) (hr.make C us [])
    (I2.env0.make C us []) b2 r2 hq) fun r s' hq' => ?_))
  cases r with
  | error e => exact passAt tk σ pins _ _ e s' I2 hq'
  | ok fl =>
    cases fl with
    | ret u =>
      obtain ⟨v, H', I3, rv, ev, q3⟩ := I2.after hq'
      subst ev
      exact ⟨rv, ⟨V.ref (s1.heap.objs.size + 1), H', I3, rfl, q3⟩⟩
    | next => exact False.elim hq'
    | brk => exact False.elim hq'
    | cont => exact False.elim hq'
end
/-! ### a def that is given the error which the caller's suite holds -/
abbrev SpE := Addr → Value → Option Addr → Hp → VK → Prop
structure FnE (P : Program) (w : World) (K : PySem.W.Frag) (mg : Str → Option Value) (base : Heap) (k : Nat) (f : Addr) (fd : FuncData) (x : Str) (sp : SpE) : Prop where
  run : ∀ (A : Around) (outer : List Env) (s : Shared) (H : Hp) (args : Args) (Q : VK) (a : Addr) (oe : Obj) (cls : Value) (d : Option Addr), L2H.RoomH k A → L2H.PinOk outer H s (a, oe) → Zc cls d oe → (∃ vs, oe.data = .fields vs) → Env0 P w K mg base A outer s H →
    BindsTo s fd args [(x, .ref a)] → sp a cls d H Q → codeAny (model P w) A (.call (.ref f) args) (CR CX0 outer P w H s Q E0) s
/-- the context of its body -/
abbrev cxE (P : Program) (w : World) (K : PySem.W.Frag) (mg : Str → Option Value) (base : Heap) (N : List Str) (qual : Str) (scope : Scope) (f : Addr) (cd : Value) (A : Around) (outer : List Env) (s : Shared) (H : Hp) (p : Addr × Obj) : Cx :=
  (L2H.cxH CX0 P w K mg base N qual scope f cd A outer s H E0 p).nox
theorem fn_ofE {P : Program} {w : World} {K : PySem.W.Frag} {mg : Str → Option Value} {base : Heap} {k : Nat} {f : Addr} {name qual : Str} {params : Arguments} {body : List Stmt} {scope : Scope} {dV kV doc pm cdv ct oc : Value} {an od : Option Addr}
    {osl : Array (Option Value)} {N : List Str} {x : Str} {sp : SpE} (lk : K.lookup f = some ⟨oc, od, .func (PySem.W.fnOf name qual params body scope dV kV doc pm an cdv ct), osl⟩) (hcd : PySem.W.codeIn K cdv qual = true) (S : FnScope N [x] scope)
    (hbody : ∀ (A : Around) (outer : List Env) (s : Shared) (H : Hp) (Q : VK) (a : Addr) (oe : Obj) (cls : Value) (d : Option Addr), L2H.RoomH k (A.deeper (envOfC qual scope s.heap.objs.size f cdv)) → Zc cls d oe → (∃ vs, oe.data = .fields vs) → sp a cls d H Q →
      ∃ t, PSs (cxE P w K mg base N qual scope f cdv A outer s H (a, oe)) body t ∧ t { nx := fun _ H' => Q .non H', rt := Q } (L2.start N [.ref a]) H) :
    FnE P w K mg base (k + 1) f (PySem.W.fnOf name qual params body scope dV kV doc pm an cdv ct) x sp := by
  refine ⟨fun A outer s H args Q a oe cls d hr hpin hz hf e0 hb hsp => ?_⟩
  have KX : K.In s.heap := e0.mod.kin.keeps fun b o e => (e0.bs b o e).1
  have lim : s.heap.NoLimit := e0.mod.nolimit.keeps fun b o e => (e0.bs b o e).1
  have hkind : ∀ y ∈ [(x, Value.ref a)], scope.names.lookup y.1 = some .local ∨ (scope.names.lookup y.1 = some .cell ∧ ((cellsFrom (s.heap.objs.size + 1) scope.names []).lookup y.1).isSome = true) := fun y hy => by
    have ey : y = (x, Value.ref a) := List.mem_singleton.mp hy
    rw [ey]
    rcases S.par x List.mem_cons_self with q | q
    · exact .inl q
    · exact .inr ⟨q, PySem.W.cellsFrom_some _ _ _ (.inl q)⟩
  refine codeAny_call_function hr.depth (KX _ _ lk) rfl S.co S.gen rfl (PySem.W.codeRec_of KX hcd) (hb _ _ _ _ ?_)
  refine wpAny_newFunctionEnv_cells S.kind hkind fun env he s1 y => ?_
  subst he
  refine ⟨lim.keeps y.toInCall.keep, codeAny_func ?_⟩
  obtain ⟨t, ht, hq⟩ := hbody A outer s H Q a oe cls d (hr.deeper _) hz hf hsp
  have I : Inv (L2H.cxH CX0 P w K mg base N qual scope f cdv A outer s H E0 (a, oe)) [] (L2.start N [.ref a]) H s1 := L2H.inv_startH (us := [.ref a]) S hpin e0 rfl (.cons rfl .nil) y
  refine wpAny_mono (ht.nox.run [] s1 (L2.start N [.ref a]) H _ I hq) (fun fl s' hs => ?_) fun e s' hs => hs
  have fin : ∀ {σ' : L2.St} {H' : Hp} {v : V} {u : Value}, Inv (L2H.cxH CX0 P w K mg base N qual scope f cdv A outer s H E0 (a, oe)) [] σ' H' s' → RelV v u → Q v H' → CE outer P w H s Q u s' :=
    fun {σ' H' v u} J rv q => ⟨v, H', J.os, J.bare, J.base, J.hok, rv, q⟩
  cases fl with
  | ret u =>
    obtain ⟨v, σ', H', J, rv, q⟩ := hs
    exact fin J rv q
  | next =>
    obtain ⟨σ', H', J, q⟩ := hs
    exact fin (v := V.non) (u := Value.none) J rfl q
  | brk =>
    obtain ⟨_, _, _, q⟩ := hs
    exact False.elim q
  | cont =>
    obtain ⟨_, _, _, q⟩ := hs
    exact False.elim q
structure CalE (P : Program) (w : World) (K : PySem.W.Frag) (mg : Str → Option Value) (base : Heap) (k : Nat) (x : Str) (ps : List Str) (sp : SpE) : Prop where
  ex : ∃ f fd y, ps = [y] ∧ mg x = some (.ref f) ∧ PySem.W.keepIn K (.ref f) = true ∧ Binds K fd [y] [] ∧ FnE P w K mg base k f fd y sp
theorem Src.calE {P : Program} {w : World} {K : PySem.W.Frag} {mg : Str → Option Value} {base : Heap} {x y : Str} {st : Stmt} {N : List Str} {k : Nat} {sp : SpE} (S : Src K mg x st) (sc : FnScope N [y] (defScope st)) (bn : BindP x st [y])
    (hbody : ∀ (f : Addr) (cdv : Value) (A : Around) (outer : List Env) (s : Shared) (H : Hp) (Q : VK) (a : Addr) (oe : Obj) (cls : Value) (d : Option Addr), L2H.RoomH k (A.deeper (envOfC x (defScope st) s.heap.objs.size f cdv)) → Zc cls d oe → (∃ vs, oe.data = .fields vs) → sp a cls d H Q →
      ∃ t, PSs (cxE P w K mg base N x (defScope st) f cdv A outer s H (a, oe)) (defBody st) t ∧ t { nx := fun _ H' => Q .non H', rt := Q } (L2.start N [.ref a]) H) : CalE P w K mg base (k + 1) x [y] sp := by
  obtain ⟨f, fd, g, F⟩ := S
  have b := F.bindsN bn
  have kp := F.kp
  obtain ⟨oc, od, dV, kV, doc, pm, an, cdv, ct, osl, rfl, lk, hcd, _, _⟩ := F.ex
  exact ⟨f, _, y, rfl, g, kp, b, fn_ofE lk hcd sc fun A outer s H Q a oe cls d hr hz hf hsp => hbody f cdv A outer s H Q a oe cls d hr hz hf hsp⟩
section
variable {X : Cx} {k : Nat} {x : Str} {ps : List Str} {sp : SpE} {p pos : Pos} {e : Expr} {te : TA} {a : Addr} {oe : Obj} {cls : Value} {d : Option Addr} {pn : List (Addr × Obj)}
def tCallE (a : Addr) (cls : Value) (d : Option Addr) (sp : SpE) (te : TA) : TE := fun σ H Q => te σ H fun vs H1 => vs = [.ref a] ∧ sp a cls d H1 Q
/-- f(err) in the suite -/
theorem pe_calE (C : CalE X.prog X.w X.K X.mg X.base k x ps sp) (hr : Room k X.A) (hz : Zc cls d oe) (hf : ∃ vs, oe.data = .fields vs) (ha : PA (X.suite a ((a, oe) :: pn)) [e] te) (hg : Gl (X.suite a ((a, oe) :: pn)) x := by rfl) (hdb : (x == ("__debug__" : Str)) = false := by decide)
    (hs : nostar e = true := by rfl) : PE (X.suite a ((a, oe) :: pn)) (.Call (.Name x p) [e] [] pos) (tCallE a cls d sp te) := by
  obtain ⟨f, fd, y, _, g, kp, b, F⟩ := C.ex
  refine ⟨fun pins s σ H Q I h => ?_⟩
  refine wpAny_Call_Name_kw (ld_glob I hg g ?_ hdb)
  refine PySem.W.callWith_K (h₀ := X.base) I.ok.mod.kin kp (thn (ha.run pos pins s σ H _ I h) fun us s1 ⟨vs, H1, I1, r, ev, q⟩ => ⟨I1.kIn, ?_⟩) (star_ok hs) rfl
  subst ev
  cases r with
  | cons rx rr =>
    cases rr
    cases rx
    have P1 := I1.pin (a, oe) (List.mem_append_left _ List.mem_cons_self)
    have hpin : L2H.PinOk X.stack H1 s1 (a, oe) := ⟨P1.1, P1.2.1, fun hm => (List.mem_cons.mp (I1.stkSub a hm)).elim P1.2.2.1 P1.2.2.2.1, P1.2.2.2.2⟩
    have bb := b s1 [.ref a] I1.kIn rfl
    refine wpAny_call (codeAny_mono (F.run (X.suite a ((a, oe) :: pn)).A X.stack s1 H1 ⟨[.ref a], []⟩ Q a oe cls d ⟨hr.dp, hr.un⟩ hpin hz hf I1.env0 bb q) fun r s' hq => ?_)
    cases r with
    | error e => exact False.elim hq
    | ok fl =>
      cases fl with
      | ret u => exact I1.after hq
      | next => exact False.elim hq
      | brk => exact False.elim hq
      | cont => exact False.elim hq
end
/-- isinstance(err, (C1, C2, ..)) -/
def rIsYT (K : PySem.W.Frag) (a : Addr) (cls : Value) (d : Option Addr) : List V → Hp → VK → Prop := fun xs H Q => ∃ tp, xs = [.ref a, .ref tp] ∧ ∃ D, cls = .ref D ∧ ∃ dd, d = some dd ∧ (∃ fs, H dd = some (.xd fs)) ∧ ExcC K D ∧
  ∃ cs, H tp = some (.tup cs) ∧ ∃ us, cs.map clsVal = us.map some ∧ ∃ b, PySem.W.kitAny K (.ref D) us = some b ∧ Q (.bl b) H
theorem cls_vals : ∀ {cs : List V} {us ws : List Value}, cs.map clsVal = us.map some → Vals cs ws → ws = us
  | [], [], _, _, .nil => rfl
  | [], _ :: _, _, h, _ => by cases h
  | _ :: _, [], _, h, _ => by cases h
  | c :: cs, u :: us, _, h, .cons r rr => by
    simp only [List.map_cons, List.cons.injEq] at h
    have e2 := cls_vals h.2 rr
    subst e2
    congr 1
    have h1 := h.1
    cases c with
    | ref C2 => cases h1; exact r
    | ty n => cases h1; exact r
    | _ => cases h1
theorem call_isYT {X : Cx} {a : Addr} {oe : Obj} {cls : Value} {d : Option Addr} (hp : (a, oe) ∈ X.pn) (hz : Zc cls d oe) (hf : ∃ vs, oe.data = .fields vs) : CallR X (.builtin "isinstance") (rIsYT X.K a cls d) := by
  intro pins s σ H xs us Q I r h
  obtain ⟨tp, rfl, D, rfl, dd, rfl, ⟨fs, hdd⟩, C, cs, hT, ws, hcs, b, e, q⟩ := h
  cases r with
  | cons rx rr =>
    cases rr with
    | cons rt rr =>
      cases rr
      cases rx
      cases rt
      obtain ⟨hget, _⟩ := I.pin (a, oe) (List.mem_append_left _ hp)
      obtain ⟨vs, hv⟩ := hf
      have hx : ObjOk X.prog X.w H s.heap dd (.xd fs) := I.hok dd _ hdd
      obtain ⟨mA, ⟨od, es, ep, ho, hrest⟩, hr⟩ := hx
      have J : PySem.W.InstAt s.heap a oe D (some od) := ⟨hget, hz.1, by unfold PySem.W.notCls; rw [hv] <;> rfl, by rw [hz.2]; exact ho⟩
      obtain ⟨_, its, rv, o, h1, h2, n, h3⟩ := (show ObjOk X.prog X.w H s.heap tp (.tup cs) from I.hok tp _ hT)
      have e3 := cls_vals hcs rv
      subst e3
      obtain ⟨oc, od2, dt, sl⟩ := o
      simp only at h2 h3
      subst h2 h3
      exact PySem.W.kia_tup (PySem.W.fx_kitx C.hg C.hk C.hs C.hd C.ha C.hn C.ht C.hm) I.kIn ⟨_, J⟩ h1 e (fun z => nomatch z) fun tk => ⟨.bl b, H, I.kept (t' := tk) fun _ _ z => z, rfl, q⟩
end Fx
namespace Fx
open PySem PySem.Spec PyProof.Rows L2
/-- // of any sign -/
def CDivZ (_ j : Int) : Prop := j ≠ 0 ∧ j.natAbs.log2 < 9000
section
variable {X : Cx}
theorem op_fdivZ : OpR X (binaryOp .FloorDiv) (rI CDivZ fun i j => .int (i.fdiv j)) := opI fun i j _ _ _ _ _ hc q => floordiv_int hc.1 q (.inl (PyProof.noPylong_of_log2 hc.2))
def rIntB : List V → Hp → VK → Prop := fun xs H Q => ∃ k, xs = [.bl k] ∧ Q (.int (if k = true then 1 else 0)) H
theorem int_B : CallR X (.type "int") rIntB := CallR.imp call_int1 fun xs H Q h => .inr h
/-- a callee that may raise, and does not -/
theorem passX : Passes (L2.CX X.prog X.w) X E0 := fun _ _ _ _ _ _ _ h => by
  obtain ⟨_, _, _, _, _, _, _, _, _, _, _, _, hE⟩ := h
  exact hE.elim
end
theorem cdivZ_of {i j : Int} (h0 : j ≠ 0) (h : j.natAbs < 2 ^ 64) : CDivZ i j := ⟨h0, Nat.lt_trans (PySem.Flt.log2_lt_of (by decide) h) (by decide)⟩
theorem Bag.ins {H : Hp} {b : Addr} (B : Bag H b) {a C dx : Addr} {fs : List (Str × V)} (h : H a = Option.some (.ins C dx fs)) : a ≠ b := by
  obtain ⟨c, ns, x, r, m, n, h1, _⟩ := B
  exact ne_of h h1 (by intro z; cases z)
theorem Kp.ins {H H1 : Hp} {b : Addr} (x : Kp b H H1) (B : Bag H b) {a C dx : Addr} {fs : List (Str × V)} (h : H a = Option.some (.ins C dx fs)) : H1 a = Option.some (.ins C dx fs) := x.keep _ _ (B.ins h) h
end Fx
namespace Fx
open PySem PySem.Spec PyProof.Rows L2
/-- isinstance(o, C), o an instance of an own class -/
def rIsI (K : PySem.W.Frag) : List V → Hp → VK → Prop := fun xs H Q => ∃ a c, xs = [.ref a, c] ∧ ∃ D dx fs, H a = some (.ins D dx fs) ∧ C8.InsC K D ∧ ∃ cv, clsVal c = some cv ∧ ∃ b, PySem.W.kitOne K (.ref D) cv = some b ∧ Q (.bl b) H
theorem is_I {X : Cx} : CallR X (.builtin "isinstance") (rIsI X.K) := by
  intro pins s σ H xs us Q I r h
  obtain ⟨a, c, rfl, D, dx, fs, ha, k, cv, hcv, b, hb, q⟩ := h
  obtain ⟨u, w', rfl, ru, rw'⟩ := vals2 r
  have e : w' = cv := by
    cases c with
    | ref C2 => cases hcv; exact rw'
    | ty n => cases hcv; exact rw'
    | _ => cases hcv
  subst e
  exact isinst_ok I ru (TyOf.ins ha k.cl k.ha k.hn k.htk k.hm) hb fun tk => ⟨.bl b, H, I.tok _, rfl, q⟩
def insB (K : PySem.W.Frag) (C : Addr) : Bool := decide (PySem.W.findIn K (.ref C) "__class__" = some (some (.builtin "object.__class__"))) && (decide (PySem.W.specialIn K (.builtin "object.__class__") "__get__" = some (some (.builtin "getset_descriptor.__get__"))) &&
  (decide (PySem.W.takesIn K (.builtin "object.__class__") = some true) && (decide (PySem.W.mroIn K C (.type "object") = some true) && decide (PySem.W.kitOne K (.ref C) (.ref C) = some true))))
theorem insC_of {K : PySem.W.Frag} {C : Addr} (cl : Cls K C) (h : insB K C = true) : C8.InsC K C := by
  obtain ⟨h1, h⟩ := He.ba h
  obtain ⟨h2, h⟩ := He.ba h
  obtain ⟨h3, h⟩ := He.ba h
  obtain ⟨h4, h5⟩ := He.ba h
  exact ⟨cl, of_decide_eq_true h1, of_decide_eq_true h2, of_decide_eq_true h3, of_decide_eq_true h4, of_decide_eq_true h5⟩
end Fx
namespace Fx
open PySem PySem.Spec PyProof.Rows L2
/-- the loop over a list or a tuple that stays, by an invariant -/
theorem forQ {K : PySem.W.Frag} {a : Addr} {xs : List V} {j : Nat} {g : TG} {tb : TS} {D : Ends} {σ : L2.St} {H : Hp} (hv : σ[j]? = some (some (.ref a))) (hq : Sq H a xs) (Pv : Nat → L2.St → Hp → Prop) (h0 : Pv 0 σ H) (hS : ∀ i σ H', Pv i σ H' → Same H H')
    (hs : ∀ i x σ H, xs[i]? = some x → Pv i σ H → g x σ H fun σ2 H2 => tb { D with nx := Pv (i + 1), ct := Pv (i + 1), bk := D.nx } σ2 H2) (hd : ∀ σ H, Pv xs.length σ H → D.nx σ H) : tFor (iQ K (tVar j)) g tb D σ H := by
  rcases hq with hq | hq
  · exact .inl ⟨_, hv, a, rfl, ⟨_, .inl (.inl hq)⟩, for_list (K := K) (a := a) (xs := xs) Pv h0 (fun i σ H' _ p => .inl (.inl (hS i σ H' p _ _ hq))) hs hd⟩
  · exact .inr ⟨_, hv, a, rfl, ⟨_, .inl (.inl hq)⟩, for_tup (K := K) (a := a) (xs := xs) Pv h0 (fun i σ H' _ p => .inl (.inl (hS i σ H' p _ _ hq))) hs hd⟩
end Fx
namespace Fx
open PySem PySem.Spec PyProof.Rows L2
/-- a statement first; what follows stays folded -/
theorem nxI {t : TS} {D : Ends} {σ : L2.St} {H : Hp} (h : ∀ K : L2.St → Hp → Prop, (∀ σ H, D.nx σ H → K σ H) → t { D with nx := K } σ H) : t D σ H := h D.nx fun _ _ x => x
end Fx
namespace K01
open PySem PySem.Spec PyProof.Rows L2 Fx
def sizes : List (List Int) := [[2, 1, 16, 1, 8, 32768], [3, 2, 24, 2, 12, 8388608], [4, 4, 32, 2, 16, 2147483648]]

def top (i : Nat) : Stmt := PySem.Challenge.pw_fablemill_k01_numbers.main.body.getD i (.Pass ⟨0, 0, 0, 0⟩)
abbrev s_Version_MU_initU : Stmt := inClass (top 23) 0
abbrev N_Version_MU_initU : List Str := ["self", "version"]
theorem sc_Version_MU_initU : FnScope N_Version_MU_initU ["self", "version"] (defScope s_Version_MU_initU) := ⟨rfl, rfl, rfl, by decide +kernel, rfl, by decide +kernel, by decide +kernel⟩
theorem bn_Version_MU_initU : BindQ "__init__" "Version.__init__" s_Version_MU_initU ["self", "version"] := fun _ _ _ _ _ _ us hl => match us, hl with | [_, _], _ => rfl
abbrev s_Version_MU_eqU : Stmt := inClass (top 23) 1
abbrev N_Version_MU_eqU : List Str := ["self", "other"]
theorem sc_Version_MU_eqU : FnScope N_Version_MU_eqU ["self", "other"] (defScope s_Version_MU_eqU) := ⟨rfl, rfl, rfl, by decide +kernel, rfl, by decide +kernel, by decide +kernel⟩
theorem bn_Version_MU_eqU : BindQ "__eq__" "Version.__eq__" s_Version_MU_eqU ["self", "other"] := fun _ _ _ _ _ _ us hl => match us, hl with | [_, _], _ => rfl
abbrev s_Version_M_wrap : Stmt := inClass (top 23) 2
abbrev N_Version_M_wrap : List Str := ["self", "integer", "whole", "rest"]
theorem sc_Version_M_wrap : FnScope N_Version_M_wrap ["self", "integer"] (defScope s_Version_M_wrap) := ⟨rfl, rfl, rfl, by decide +kernel, rfl, by decide +kernel, by decide +kernel⟩
theorem bn_Version_M_wrap : BindQ "wrap" "Version.wrap" s_Version_M_wrap ["self", "integer"] := fun _ _ _ _ _ _ us hl => match us, hl with | [_, _], _ => rfl
abbrev s_Version_M_is_number : Stmt := inClass (top 23) 3
abbrev N_Version_M_is_number : List Str := ["self", "thing"]
theorem sc_Version_M_is_number : FnScope N_Version_M_is_number ["self", "thing"] (defScope s_Version_M_is_number) := ⟨rfl, rfl, rfl, by decide +kernel, rfl, by decide +kernel, by decide +kernel⟩
theorem bn_Version_M_is_number : BindQ "is_number" "Version.is_number" s_Version_M_is_number ["self", "thing"] := fun _ _ _ _ _ _ us hl => match us, hl with | [_, _], _ => rfl
abbrev s_Version_M_bytes_of : Stmt := inClass (top 23) 4
abbrev N_Version_M_bytes_of : List Str := ["self", "number", "rest", "row", "step"]
theorem sc_Version_M_bytes_of : FnScope N_Version_M_bytes_of ["self", "number"] (defScope s_Version_M_bytes_of) := ⟨rfl, rfl, rfl, by decide +kernel, rfl, by decide +kernel, by decide +kernel⟩
theorem bn_Version_M_bytes_of : BindQ "bytes_of" "Version.bytes_of" s_Version_M_bytes_of ["self", "number"] := fun _ _ _ _ _ _ us hl => match us, hl with | [_, _], _ => rfl
abbrev s_Version_M_number_of : Stmt := inClass (top 23) 5
abbrev N_Version_M_number_of : List Str := ["self", "row", "total", "one"]
theorem sc_Version_M_number_of : FnScope N_Version_M_number_of ["self", "row"] (defScope s_Version_M_number_of) := ⟨rfl, rfl, rfl, by decide +kernel, rfl, by decide +kernel, by decide +kernel⟩
theorem bn_Version_M_number_of : BindQ "number_of" "Version.number_of" s_Version_M_number_of ["self", "row"] := fun _ _ _ _ _ _ us hl => match us, hl with | [_, _], _ => rfl
abbrev s_Version_M_work : Stmt := inClass (top 23) 6
abbrev N_Version_M_work : List Str := ["self", "op", "a", "b", "quotient"]
theorem sc_Version_M_work : FnScope N_Version_M_work ["self", "op", "a", "b"] (defScope s_Version_M_work) := ⟨rfl, rfl, rfl, by decide +kernel, rfl, by decide +kernel, by decide +kernel⟩
theorem bn_Version_M_work : BindQ "work" "Version.work" s_Version_M_work ["self", "op", "a", "b"] := fun _ _ _ _ _ _ us hl => match us, hl with | [_, _, _, _], _ => rfl
abbrev s_Version_M_greatest : Stmt := inClass (top 23) 7
abbrev N_Version_M_greatest : List Str := ["self", "bound"]
theorem sc_Version_M_greatest : FnScope N_Version_M_greatest ["self", "bound"] (defScope s_Version_M_greatest) := ⟨rfl, rfl, rfl, by decide +kernel, rfl, by decide +kernel, by decide +kernel⟩
theorem bn_Version_M_greatest : BindQ "greatest" "Version.greatest" s_Version_M_greatest ["self", "bound"] := fun _ _ _ _ _ _ us hl => match us, hl with | [_, _], _ => rfl
abbrev s_is_integer : Stmt := top 21
abbrev N_is_integer : List Str := ["thing", "low", "high"]
theorem sc_is_integer : FnScope N_is_integer ["thing", "low", "high"] (defScope s_is_integer) := ⟨rfl, rfl, rfl, by decide +kernel, rfl, by decide +kernel, by decide +kernel⟩
theorem bn_is_integer : BindP "is_integer" s_is_integer ["thing", "low", "high"] := fun _ _ _ _ _ _ us hl => match us, hl with | [_, _, _], _ => rfl
abbrev s_within : Stmt := top 22
abbrev N_within : List Str := ["bound", "number"]
theorem sc_within : FnScope N_within ["bound", "number"] (defScope s_within) := ⟨rfl, rfl, rfl, by decide +kernel, rfl, by decide +kernel, by decide +kernel⟩
theorem bn_within : BindP "within" s_within ["bound", "number"] := fun _ _ _ _ _ _ us hl => match us, hl with | [_, _], _ => rfl
abbrev s__law_bagged : Stmt := top 25
abbrev N__law_bagged : List Str := ["_law_script", "_law_mixed", "_law_cell"]
theorem sc__law_bagged : FnScope N__law_bagged ["_law_script"] (defScope s__law_bagged) := ⟨rfl, rfl, rfl, by decide +kernel, rfl, by decide +kernel, by decide +kernel⟩
theorem bn__law_bagged : BindP "_law_bagged" s__law_bagged ["_law_script"] := fun _ _ _ _ _ _ us hl => match us, hl with | [_], _ => rfl
abbrev s__law_pick : Stmt := top 26
abbrev N__law_pick : List Str := ["_law_bag", "_law_many", "_law_number", "_law_cell"]
theorem sc__law_pick : FnScope N__law_pick ["_law_bag", "_law_many"] (defScope s__law_pick) := ⟨rfl, rfl, rfl, by decide +kernel, rfl, by decide +kernel, by decide +kernel⟩
theorem bn__law_pick : BindP "_law_pick" s__law_pick ["_law_bag", "_law_many"] := fun _ _ _ _ _ _ us hl => match us, hl with | [_, _], _ => rfl
abbrev s__law_choice : Stmt := top 27
abbrev N__law_choice : List Str := ["_law_bag", "_law_things"]
theorem sc__law_choice : FnScope N__law_choice ["_law_bag", "_law_things"] (defScope s__law_choice) := ⟨rfl, rfl, rfl, by decide +kernel, rfl, by decide +kernel, by decide +kernel⟩
theorem bn__law_choice : BindP "_law_choice" s__law_choice ["_law_bag", "_law_things"] := fun _ _ _ _ _ _ us hl => match us, hl with | [_, _], _ => rfl
abbrev s__law_integer : Stmt := top 28
abbrev N__law_integer : List Str := ["_law_thing"]
theorem sc__law_integer : FnScope N__law_integer ["_law_thing"] (defScope s__law_integer) := ⟨rfl, rfl, rfl, by decide +kernel, rfl, by decide +kernel, by decide +kernel⟩
theorem bn__law_integer : BindP "_law_integer" s__law_integer ["_law_thing"] := fun _ _ _ _ _ _ us hl => match us, hl with | [_], _ => rfl
abbrev s__law_integers : Stmt := top 29
abbrev N__law_integers : List Str := ["_law_actual", "_law_due", "_law_k"]
theorem sc__law_integers : FnScope N__law_integers ["_law_actual", "_law_due"] (defScope s__law_integers) := ⟨rfl, rfl, rfl, by decide +kernel, rfl, by decide +kernel, by decide +kernel⟩
theorem bn__law_integers : BindP "_law_integers" s__law_integers ["_law_actual", "_law_due"] := fun _ _ _ _ _ _ us hl => match us, hl with | [_, _], _ => rfl
abbrev s__law_truth : Stmt := top 30
abbrev N__law_truth : List Str := ["_law_actual", "_law_due"]
theorem sc__law_truth : FnScope N__law_truth ["_law_actual", "_law_due"] (defScope s__law_truth) := ⟨rfl, rfl, rfl, by decide +kernel, rfl, by decide +kernel, by decide +kernel⟩
theorem bn__law_truth : BindP "_law_truth" s__law_truth ["_law_actual", "_law_due"] := fun _ _ _ _ _ _ us hl => match us, hl with | [_, _], _ => rfl
abbrev s__law_a_sizes : Stmt := top 31
abbrev N__law_a_sizes : List Str := ["_law_which"]
theorem sc__law_a_sizes : FnScope N__law_a_sizes ["_law_which"] (defScope s__law_a_sizes) := ⟨rfl, rfl, rfl, by decide +kernel, rfl, by decide +kernel, by decide +kernel⟩
theorem bn__law_a_sizes : BindP "_law_a_sizes" s__law_a_sizes ["_law_which"] := fun _ _ _ _ _ _ us hl => match us, hl with | [_], _ => rfl
abbrev s__law_a_number : Stmt := top 32
abbrev N__law_a_number : List Str := ["_law_bag", "_law_half", "_law_way", "_law_edges"]
theorem sc__law_a_number : FnScope N__law_a_number ["_law_bag", "_law_half"] (defScope s__law_a_number) := ⟨rfl, rfl, rfl, by decide +kernel, rfl, by decide +kernel, by decide +kernel⟩
theorem bn__law_a_number : BindP "_law_a_number" s__law_a_number ["_law_bag", "_law_half"] := fun _ _ _ _ _ _ us hl => match us, hl with | [_, _], _ => rfl
abbrev s__law_large : Stmt := top 33
abbrev N__law_large : List Str := ["_law_bag", "_law_half", "_law_told", "_law_k"]
theorem sc__law_large : FnScope N__law_large ["_law_bag", "_law_half"] (defScope s__law_large) := ⟨rfl, rfl, rfl, by decide +kernel, rfl, by decide +kernel, by decide +kernel⟩
theorem bn__law_large : BindP "_law_large" s__law_large ["_law_bag", "_law_half"] := fun _ _ _ _ _ _ us hl => match us, hl with | [_, _], _ => rfl
abbrev s__law_wrapped : Stmt := top 34
abbrev N__law_wrapped : List Str := ["_law_half", "_law_number"]
theorem sc__law_wrapped : FnScope N__law_wrapped ["_law_half", "_law_number"] (defScope s__law_wrapped) := ⟨rfl, rfl, rfl, by decide +kernel, rfl, by decide +kernel, by decide +kernel⟩
theorem bn__law_wrapped : BindP "_law_wrapped" s__law_wrapped ["_law_half", "_law_number"] := fun _ _ _ _ _ _ us hl => match us, hl with | [_, _], _ => rfl
abbrev s__law_worked : Stmt := top 35
abbrev N__law_worked : List Str := ["_law_half", "_law_op", "_law_a", "_law_b"]
theorem sc__law_worked : FnScope N__law_worked ["_law_half", "_law_op", "_law_a", "_law_b"] (defScope s__law_worked) := ⟨rfl, rfl, rfl, by decide +kernel, rfl, by decide +kernel, by decide +kernel⟩
theorem bn__law_worked : BindP "_law_worked" s__law_worked ["_law_half", "_law_op", "_law_a", "_law_b"] := fun _ _ _ _ _ _ us hl => match us, hl with | [_, _, _, _], _ => rfl
abbrev s__law_bytes : Stmt := top 36
abbrev N__law_bytes : List Str := ["_law_sizes", "_law_number", "_law_rest", "_law_row", "_law_k"]
theorem sc__law_bytes : FnScope N__law_bytes ["_law_sizes", "_law_number"] (defScope s__law_bytes) := ⟨rfl, rfl, rfl, by decide +kernel, rfl, by decide +kernel, by decide +kernel⟩
theorem bn__law_bytes : BindP "_law_bytes" s__law_bytes ["_law_sizes", "_law_number"] := fun _ _ _ _ _ _ us hl => match us, hl with | [_, _], _ => rfl
abbrev s__law_acts_hold : Stmt := top 37
abbrev N__law_acts_hold : List Str := ["_law_bag", "_law_told", "_law_sizes", "_law_half", "_law_a", "_law_b", "_law_size", "_law_one", "_law_two", "_law_op"]
theorem sc__law_acts_hold : FnScope N__law_acts_hold ["_law_bag", "_law_told", "_law_sizes"] (defScope s__law_acts_hold) := ⟨rfl, rfl, rfl, by decide +kernel, rfl, by decide +kernel, by decide +kernel⟩
theorem bn__law_acts_hold : BindP "_law_acts_hold" s__law_acts_hold ["_law_bag", "_law_told", "_law_sizes"] := fun _ _ _ _ _ _ us hl => match us, hl with | [_, _, _], _ => rfl
abbrev s__law_bytes_hold : Stmt := top 38
abbrev N__law_bytes_hold : List Str := ["_law_bag", "_law_told", "_law_sizes", "_law_half", "_law_k", "_law_number", "_law_due", "_law_row", "_law_total", "_law_one", "_law_kept", "_law_place"]
theorem sc__law_bytes_hold : FnScope N__law_bytes_hold ["_law_bag", "_law_told", "_law_sizes"] (defScope s__law_bytes_hold) := ⟨rfl, rfl, rfl, by decide +kernel, rfl, by decide +kernel, by decide +kernel⟩
theorem bn__law_bytes_hold : BindP "_law_bytes_hold" s__law_bytes_hold ["_law_bag", "_law_told", "_law_sizes"] := fun _ _ _ _ _ _ us hl => match us, hl with | [_, _, _], _ => rfl
abbrev s__law_bounds_hold : Stmt := top 39
abbrev N__law_bounds_hold : List Str := ["_law_bag", "_law_told", "_law_sizes", "_law_half", "_law_k", "_law_bound", "_law_number", "_law_actual", "_law_one"]
theorem sc__law_bounds_hold : FnScope N__law_bounds_hold ["_law_bag", "_law_told", "_law_sizes"] (defScope s__law_bounds_hold) := ⟨rfl, rfl, rfl, by decide +kernel, rfl, by decide +kernel, by decide +kernel⟩
theorem bn__law_bounds_hold : BindP "_law_bounds_hold" s__law_bounds_hold ["_law_bag", "_law_told", "_law_sizes"] := fun _ _ _ _ _ _ us hl => match us, hl with | [_, _, _], _ => rfl
abbrev s__law_other_class : Stmt := top 40
abbrev N__law_other_class : List Str := ["_law_e"]
theorem sc__law_other_class : FnScope N__law_other_class ["_law_e"] (defScope s__law_other_class) := ⟨rfl, rfl, rfl, by decide +kernel, rfl, by decide +kernel, by decide +kernel⟩
theorem bn__law_other_class : BindP "_law_other_class" s__law_other_class ["_law_e"] := fun _ _ _ _ _ _ us hl => match us, hl with | [_], _ => rfl
abbrev s__law_no_version : Stmt := top 41
abbrev N__law_no_version : List Str := ["_law_thing", "_law_e"]
theorem sc__law_no_version : FnScope N__law_no_version ["_law_thing"] (defScope s__law_no_version) := ⟨rfl, rfl, rfl, by decide +kernel, rfl, by decide +kernel, by decide +kernel⟩
theorem bn__law_no_version : BindP "_law_no_version" s__law_no_version ["_law_thing"] := fun _ _ _ _ _ _ us hl => match us, hl with | [_], _ => rfl
abbrev s__law_no_number : Stmt := top 42
abbrev N__law_no_number : List Str := ["_law_told", "_law_thing", "_law_e"]
theorem sc__law_no_number : FnScope N__law_no_number ["_law_told", "_law_thing"] (defScope s__law_no_number) := ⟨rfl, rfl, rfl, by decide +kernel, rfl, by decide +kernel, by decide +kernel⟩
theorem bn__law_no_number : BindP "_law_no_number" s__law_no_number ["_law_told", "_law_thing"] := fun _ _ _ _ _ _ us hl => match us, hl with | [_, _], _ => rfl
abbrev s__law_refusals_hold : Stmt := top 43
abbrev N__law_refusals_hold : List Str := ["_law_bag", "_law_told", "_law_half", "_law_wide", "_law_thing"]
theorem sc__law_refusals_hold : FnScope N__law_refusals_hold ["_law_bag", "_law_told", "_law_half"] (defScope s__law_refusals_hold) := ⟨rfl, rfl, rfl, by decide +kernel, rfl, by decide +kernel, by decide +kernel⟩
theorem bn__law_refusals_hold : BindP "_law_refusals_hold" s__law_refusals_hold ["_law_bag", "_law_told", "_law_half"] := fun _ _ _ _ _ _ us hl => match us, hl with | [_, _, _], _ => rfl
abbrev s_law : Stmt := top 44
abbrev N_law : List Str := ["_law_script", "_law_bag", "_law_first", "_law_second", "_law_one", "_law_two", "_law_k", "_law_told", "_law_which", "_law_sizes", "_law_actual"]
theorem sc_law : FnScope N_law ["_law_script"] (defScope s_law) := ⟨rfl, rfl, rfl, by decide +kernel, rfl, by decide +kernel, by decide +kernel⟩
theorem bn_law : BindP "law" s_law ["_law_script"] := fun _ _ _ _ _ _ us hl => match us, hl with | [_], _ => rfl
structure Tx (P : Program) (K : PySem.W.Frag) (mg : Str → Option Value) : Prop where
  b_ValueError : mg "ValueError" = none
  b_all : mg "all" = none
  b_bool : mg "bool" = none
  b_int : mg "int" = none
  b_isinstance : mg "isinstance" = none
  b_len : mg "len" = none
  b_list : mg "list" = none
  b_range : mg "range" = none
  b_repr : mg "repr" = none
  b_tuple : mg "tuple" = none
  b_super : mg "super" = none
  c_SIZES : Cst mg "SIZES" (.ref (He.ga K "SIZES"))
  g_BadCommand : mg "BadCommand" = some (.ref (He.ga K "BadCommand"))
  g_BadMark : mg "BadMark" = some (.ref (He.ga K "BadMark"))
  g_BadNumber : mg "BadNumber" = some (.ref (He.ga K "BadNumber"))
  x_BadNumber : XC K P "BadNumber" "number" (He.ga K "BadNumber")
  e_BadNumber : ExcC K (He.ga K "BadNumber")
  g_BadPlain : mg "BadPlain" = some (.ref (He.ga K "BadPlain"))
  g_BadSeed : mg "BadSeed" = some (.ref (He.ga K "BadSeed"))
  g_BadSheet : mg "BadSheet" = some (.ref (He.ga K "BadSheet"))
  g_BadStory : mg "BadStory" = some (.ref (He.ga K "BadStory"))
  g_BadText : mg "BadText" = some (.ref (He.ga K "BadText"))
  g_BadTree : mg "BadTree" = some (.ref (He.ga K "BadTree"))
  g_BadVersion : mg "BadVersion" = some (.ref (He.ga K "BadVersion"))
  x_BadVersion : XC K P "BadVersion" "version" (He.ga K "BadVersion")
  e_BadVersion : ExcC K (He.ga K "BadVersion")
  g_BadWord : mg "BadWord" = some (.ref (He.ga K "BadWord"))
  g_FableError : mg "FableError" = some (.ref (He.ga K "FableError"))
  g_NoRoutine : mg "NoRoutine" = some (.ref (He.ga K "NoRoutine"))
  g_NoThing : mg "NoThing" = some (.ref (He.ga K "NoThing"))
  g_TooLong : mg "TooLong" = some (.ref (He.ga K "TooLong"))
  g_TooMany : mg "TooMany" = some (.ref (He.ga K "TooMany"))
  g_Torn : mg "Torn" = some (.ref (He.ga K "Torn"))
  g_Unknown : mg "Unknown" = some (.ref (He.ga K "Unknown"))
  g_Version : mg "Version" = some (.ref (He.ga K "Version"))
  cl_Version : Cls K (He.ga K "Version")
  n_Version_cut : NoAttr K (He.ga K "Version") "cut"
  n_Version_half : NoAttr K (He.ga K "Version") "half"
  n_Version_link : NoAttr K (He.ga K "Version") "link"
  n_Version_marks : NoAttr K (He.ga K "Version") "marks"
  n_Version_number : NoAttr K (He.ga K "Version") "number"
  n_Version_scale : NoAttr K (He.ga K "Version") "scale"
  n_Version_width : NoAttr K (He.ga K "Version") "width"
  k_BadVersion_VE : PySem.W.kitOne K (.ref (He.ga K "BadVersion")) (.type "ValueError") = some true
  k_BadVersion_BadVersion : PySem.W.kitOne K (.ref (He.ga K "BadVersion")) (.ref (He.ga K "BadVersion")) = some true
  k_BadVersion_BadNumber : PySem.W.kitOne K (.ref (He.ga K "BadVersion")) (.ref (He.ga K "BadNumber")) = some false
  k_BadNumber_VE : PySem.W.kitOne K (.ref (He.ga K "BadNumber")) (.type "ValueError") = some true
  k_BadNumber_BadVersion : PySem.W.kitOne K (.ref (He.ga K "BadNumber")) (.ref (He.ga K "BadVersion")) = some false
  k_BadNumber_BadNumber : PySem.W.kitOne K (.ref (He.ga K "BadNumber")) (.ref (He.ga K "BadNumber")) = some true
  a1_BadVersion : PySem.W.kitAny K (.ref (He.ga K "BadVersion")) [.ref (He.ga K "BadCommand"), .ref (He.ga K "BadMark"), .ref (He.ga K "BadPlain"), .ref (He.ga K "BadSeed"), .ref (He.ga K "BadSheet"), .ref (He.ga K "BadStory"), .ref (He.ga K "BadText"), .ref (He.ga K "BadTree"), .ref (He.ga K "BadWord")] = some false
  a2_BadVersion : PySem.W.kitAny K (.ref (He.ga K "BadVersion")) [.ref (He.ga K "NoRoutine"), .ref (He.ga K "NoThing"), .ref (He.ga K "TooLong"), .ref (He.ga K "TooMany"), .ref (He.ga K "Torn"), .ref (He.ga K "Unknown")] = some false
  a1_BadNumber : PySem.W.kitAny K (.ref (He.ga K "BadNumber")) [.ref (He.ga K "BadCommand"), .ref (He.ga K "BadMark"), .ref (He.ga K "BadPlain"), .ref (He.ga K "BadSeed"), .ref (He.ga K "BadSheet"), .ref (He.ga K "BadStory"), .ref (He.ga K "BadText"), .ref (He.ga K "BadTree"), .ref (He.ga K "BadWord")] = some false
  a2_BadNumber : PySem.W.kitAny K (.ref (He.ga K "BadNumber")) [.ref (He.ga K "NoRoutine"), .ref (He.ga K "NoThing"), .ref (He.ga K "TooLong"), .ref (He.ga K "TooMany"), .ref (He.ga K "Torn"), .ref (He.ga K "Unknown")] = some false
  m_BadVersion : PySem.W.exmOne K (.ref (He.ga K "BadVersion")) (.ref (He.ga K "FableError")) = some true
  m_BadNumber : PySem.W.exmOne K (.ref (He.ga K "BadNumber")) (.ref (He.ga K "FableError")) = some true
  i_Version : insB K (He.ga K "Version") = true
  t_SIZES : tupsB K "SIZES" sizes = true
theorem tyL {K : PySem.W.Frag} {H : Hp} {p : Addr} {xs : List V} (h : H p = some (.lst xs)) : tyV K "list" (.ref p) H := .inl ⟨rfl, xs, .inl (.inl h)⟩
theorem Same.put {H H1 : Hp} {D : Addr} {o : HO} (x : Same H H1) (hD : H D = none) : Same H (upd H1 D o) := fun a o' h => by
  rw [upd_ne (ne_of_none h hD)]
  exact x a o' h
theorem none_ne {H : Hp} {a b : Addr} {o : HO} (h : H a = some o) (hb : H b = none) : a ≠ b := ne_of_none h hb
theorem cutV_lo (xs : List V) (n : Nat) : cutV xs (some (n : Int)) none = xs.drop n := by
  unfold cutV
  rw [HT.sIx_nat, HT.sIx_none]
  by_cases h : n ≤ xs.length
  · rw [Nat.min_eq_left h, List.take_of_length_le (by rw [List.length_drop]; omega)]
  · rw [Nat.min_eq_right (by omega), List.drop_of_length_le (by omega : xs.length ≤ n), List.drop_length]
    simp
theorem cutV_hi (xs : List V) (n : Nat) : cutV xs none (some (n : Int)) = xs.take n := by
  unfold cutV
  rw [HT.sIx_nat, HT.sIx_none, List.drop_zero, Nat.sub_zero]
  by_cases h : n ≤ xs.length
  · rw [Nat.min_eq_left h]
  · rw [Nat.min_eq_right (by omega), List.take_of_length_le (by omega : xs.length ≤ n), List.take_length]
theorem cutV_two (xs : List V) (a b : Nat) : cutV xs (some (a : Int)) (some (b : Int)) = (xs.drop a).take (b - a) := by
  unfold cutV
  rw [HT.sIx_nat, HT.sIx_nat]
  by_cases h : a ≤ xs.length
  · rw [Nat.min_eq_left h]
    by_cases h2 : b ≤ xs.length
    · rw [Nat.min_eq_left h2]
    · rw [Nat.min_eq_right (by omega), List.take_of_length_le (by rw [List.length_drop]; omega), List.take_of_length_le (by rw [List.length_drop]; omega)]
  · rw [Nat.min_eq_right (by omega : xs.length ≤ a), List.drop_of_length_le (by omega : xs.length ≤ a), List.drop_length]
    simp
theorem atI_ok {xs : List Int} {a : Int} (h0 : 0 ≤ a) (h : a < ((xs.map V.int).length : Nat)) : ∃ n, atI (xs.map V.int) a = some (.int n) := by
  rw [List.length_map] at h
  have e : ixN (xs.map V.int).length a = some a.toNat := by
    unfold ixN
    rw [if_pos h0, if_pos (by rw [List.length_map]; exact h)]
  unfold atI
  rw [e]
  have hl : a.toNat < xs.length := by omega
  exact ⟨xs[a.toNat], by simp [hl]⟩
theorem atI_get {α : Type} {xs : List α} {i : Nat} {v : α} (h : xs[i]? = some v) : atI xs (i : Int) = some v := by
  have hl := (List.getElem?_eq_some_iff.mp h).1
  have e : ixN xs.length (i : Int) = some i := by
    unfold ixN
    rw [if_pos (by omega), if_pos (by omega)]
    rfl
  unfold atI
  rw [e]
  exact h
theorem ixN_nat {n i : Nat} (h : i < n) : ixN n (i : Int) = some i := by
  unfold ixN
  rw [if_pos (by omega), if_pos (by omega)]
  rfl
theorem mapI_get {ns : List Int} {i : Nat} (h : i < ns.length) : (ns.map V.int)[i]? = some (.int ns[i]) := by simp [h]
theorem mapI_some {ns : List Int} {i : Nat} {x : V} (h : (ns.map V.int)[i]? = some x) : ∃ n, x = V.int n ∧ ns[i]? = some n := by
  rw [List.getElem?_map] at h
  cases e : ns[i]? with
  | none => rw [e] at h; cases h
  | some z => rw [e] at h; exact ⟨z, (Option.some.inj h).symm, rfl⟩
theorem atI_mem {α : Type} {xs : List α} {a : Int} (h0 : 0 ≤ a) (h : a < (xs.length : Nat)) : ∃ c, atI xs a = some c ∧ c ∈ xs := by
  have e : ixN xs.length a = some a.toNat := by
    unfold ixN
    rw [if_pos h0, if_pos h]
  unfold atI
  rw [e]
  have hl : a.toNat < xs.length := by omega
  exact ⟨xs[a.toNat], by simp [hl], List.getElem_mem hl⟩
abbrev mi (l : List Int) : List V := l.map V.int
theorem mi_app (a b : List Int) : mi (a ++ b) = mi a ++ mi b := List.map_append
theorem mi_len (a : List Int) : (mi a).length = a.length := List.length_map ..
theorem mi_take (a : List Int) (n : Nat) : (mi a).take n = mi (a.take n) := by unfold mi; rw [List.map_take]
theorem mi_drop (a : List Int) (n : Nat) : (mi a).drop n = mi (a.drop n) := by unfold mi; rw [List.map_drop]
def hf (n : Int) : Int := if n = 1 then 32768 else if n = 2 then 8388608 else 2147483648
theorem hf_cases {n : Int} (h1 : 1 ≤ n) (h3 : n ≤ 3) : (n = 1 ∧ hf n = 32768) ∨ (n = 2 ∧ hf n = 8388608) ∨ (n = 3 ∧ hf n = 2147483648) := by
  rcases (by omega : n = 1 ∨ n = 2 ∨ n = 3) with rfl | rfl | rfl
  · exact .inl ⟨rfl, rfl⟩
  · exact .inr (.inl ⟨rfl, rfl⟩)
  · exact .inr (.inr ⟨rfl, rfl⟩)
theorem hf_lo (n : Int) : 32768 ≤ hf n ∧ hf n ≤ 2147483648 := by
  unfold hf
  split
  · decide
  · split <;> decide
def verL (n a1 a2 a3 a4 a5 a6 : Int) : List (Str × V) := [("number", .int n), ("width", .int a1), ("scale", .int a2), ("marks", .int a3), ("link", .int a4), ("cut", .int a5), ("half", .int a6)]
def verF (n : Int) : List (Str × V) := verL n (n + 1) (if n = 3 then 4 else n) (8 * n + 8) (if n = 1 then 1 else 2) (4 * n + 4) (hf n)
def Ver (K : PySem.W.Frag) (H : Hp) (x : Addr) (n : Int) : Prop := (∃ dx, H x = some (.ins (He.ga K "Version") dx (verF n))) ∧ 1 ≤ n ∧ n ≤ 3
theorem Ver.same {K : PySem.W.Frag} {H H' : Hp} {x : Addr} {n : Int} (h : Ver K H x n) (s : Same H H') : Ver K H' x n := by
  obtain ⟨⟨dx, h⟩, r⟩ := h
  exact ⟨⟨dx, s _ _ h⟩, r⟩
theorem Ver.kp {K : PySem.W.Frag} {b : Addr} {H H' : Hp} {x : Addr} {n : Int} (h : Ver K H x n) (B : Bag H b) (k : Kp b H H') : Ver K H' x n := by
  obtain ⟨⟨dx, h⟩, r⟩ := h
  exact ⟨⟨dx, k.ins B h⟩, r⟩
theorem putF_len (f : Str) (v : V) : ∀ (fs : List (Str × V)) (k : Nat), fs.length ≤ k → (putF f v fs).length ≤ k + 1
  | [], k, _ => by
    show 1 ≤ k + 1
    omega
  | (g, w) :: fs, k, h => by
    have h' : fs.length + 1 ≤ k := h
    unfold putF
    split
    · show fs.length + 1 ≤ k + 1
      omega
    · have := putF_len f v fs (k - 1) (by omega)
      show (putF f v fs).length + 1 ≤ k + 1
      omega
def NonI (H : Hp) (v : V) : Prop := (∃ t, tyv H v = some t ∧ kitB t "int" = some false) ∨ ∃ b, v = .bl b
theorem tyv_same {H H' : Hp} {v : V} {t : String} (s : Same H H') (h : tyv H v = some t) : tyv H' v = some t := by
  cases v with
  | ref a =>
    unfold tyv at h ⊢
    dsimp only at h ⊢
    cases e : H a with
    | none => rw [e] at h; cases h
    | some o => rw [e] at h; rw [s a o e]; exact h
  | _ => exact h
theorem NonI.same {H H' : Hp} {v : V} (s : Same H H') (h : NonI H v) : NonI H' v := by
  rcases h with ⟨t, h1, h2⟩ | h
  · exact .inl ⟨t, tyv_same s h1, h2⟩
  · exact .inr h
/-- no integer from lo to hi -/
def BadI (lo hi : Int) (H : Hp) (v : V) : Prop := NonI H v ∨ ∃ i, v = .int i ∧ ¬ (lo ≤ i ∧ i ≤ hi)
theorem BadI.same {lo hi : Int} {H H' : Hp} {v : V} (s : Same H H') (h : BadI lo hi H v) : BadI lo hi H' v := h.elim (fun h => .inl (h.same s)) .inr
def spIsInt : Sp := fun vs H Q _ => ∃ (v : V) (lo hi : Int), vs = [v, .int lo, .int hi] ∧ ((∃ i, v = .int i ∧ Q (.bl (decide (lo ≤ i ∧ i ≤ hi))) H) ∨ (NonI H v ∧ Q (.bl false) H))
def inB (b i : Int) : Bool := decide (b = 0) || (decide (0 ≤ i) && decide (i < b))
def spWithin : Sp := fun vs H Q _ => ∃ b i : Int, vs = [.int b, .int i] ∧ Q (.bl (inB b i)) H
def spVer (K : PySem.W.Frag) : Sp := fun vs H Q E => ∃ (x dx : Addr) (v : V), vs = [.ref x, v] ∧ H x = some (.ins (He.ga K "Version") dx []) ∧
  ((∃ n, v = .int n ∧ 1 ≤ n ∧ n ≤ 3 ∧ ∀ H', (∀ a o, a ≠ x → H a = some o → H' a = some o) → H' x = some (.ins (He.ga K "Version") dx (verF n)) → Q .non H') ∨
   (BadI 1 3 H v ∧ ∀ d H', Same H H' → H d = none → H' d = some (.xd [("version", v)]) → E (.ref (He.ga K "BadVersion")) (some d) H'))
def spVEq (K : PySem.W.Frag) : Sp := fun vs H Q _ => ∃ (x y : Addr) (n m : Int), vs = [.ref x, .ref y] ∧ Ver K H x n ∧ Ver K H y m ∧ Q (.bl (decide (n = m))) H
def wrapZ (n i : Int) : Int := (i + hf n) % (hf n + hf n) - hf n
def spWrap (K : PySem.W.Frag) : Sp := fun vs H Q _ => ∃ (x : Addr) (n i : Int), vs = [.ref x, .int i] ∧ Ver K H x n ∧ Q (.int (wrapZ n i)) H
def spIsNum (K : PySem.W.Frag) : Sp := fun vs H Q _ => ∃ (x : Addr) (n : Int) (v : V), vs = [.ref x, v] ∧ Ver K H x n ∧ ((∃ i, v = .int i ∧ Q (.bl (decide (-hf n ≤ i ∧ i ≤ hf n - 1))) H) ∨ (NonI H v ∧ Q (.bl false) H))
/-- big end first -/
def be : Nat → Int → List Int → List Int
  | 0, _, l => l
  | k + 1, r, l => be k (r / 256) (r % 256 :: l)
def bytesZ (n i : Int) : List Int := be (n + 1).toNat (if i < 0 then i + (hf n + hf n) else i) []
def spBytes (K : PySem.W.Frag) : Sp := fun vs H Q E => ∃ (x : Addr) (n : Int) (v : V), vs = [.ref x, v] ∧ Ver K H x n ∧
  ((∃ i, v = .int i ∧ -hf n ≤ i ∧ i ≤ hf n - 1 ∧ ∀ p H', Same H H' → H' p = some (.tup (mi (bytesZ n i))) → Q (.ref p) H') ∨
   (BadI (-hf n) (hf n - 1) H v ∧ ∀ d H', Same H H' → H d = none → H' d = some (.xd [("number", v)]) → E (.ref (He.ga K "BadNumber")) (some d) H'))
def sumB (l : List Int) : Int := l.foldl (fun t o => t * 256 + o) 0
def spNumOf (K : PySem.W.Frag) : Sp := fun vs H Q _ => ∃ (x p : Addr) (n : Int) (l : List Int), vs = [.ref x, .ref p] ∧ Ver K H x n ∧ Sq H p (mi l) ∧ Q (.int (wrapZ n (sumB l))) H
def workZ (n : Int) (op : Str) (a b : Int) : Int :=
  if op = "add" then wrapZ n (a + b) else if op = "sub" then wrapZ n (a - b) else if op = "mul" then wrapZ n (a * b) else if b = 0 then 0 else if op = "div" then wrapZ n (a.fdiv b) else a.fmod b
abbrev Sml (a : Int) : Prop := -4294967296 ≤ a ∧ a ≤ 4294967296
def spWork (K : PySem.W.Frag) : Sp := fun vs H Q _ => ∃ (x : Addr) (n a b : Int) (op : Str), vs = [.ref x, .str op, .int a, .int b] ∧ Ver K H x n ∧ Sml a ∧ Sml b ∧ Q (.int (workZ n op a b)) H
def spGreat (K : PySem.W.Frag) : Sp := fun vs H Q _ => ∃ (x : Addr) (n b : Int), vs = [.ref x, .int b] ∧ Ver K H x n ∧ Q (.int (if b = 0 then hf n - 1 else b - 1)) H
def spChoice : Sp := fun vs H Q _ => ∃ (b p : Addr) (l : List Int), vs = [.ref b, .ref p] ∧ Bag H b ∧ H p = some (.lst (mi l)) ∧ 0 < l.length ∧ l.length ≤ 1000 ∧ ∀ i H', i ∈ l → Kp b H H' → Q (.int i) H'
theorem sumB_step {l : List Int} {i : Nat} {o : Int} (h : l[i]? = some o) : sumB (l.take (i + 1)) = sumB (l.take i) * 256 + o := by
  unfold sumB
  rw [List.take_add_one, h, List.foldl_append]
  rfl
def spInteger : Sp := fun vs H Q _ => ∃ i : Int, vs = [.int i] ∧ Q (.bl true) H
def spInts : Sp := fun vs H Q _ => ∃ (p q : Addr) (l : List Int), vs = [.ref p, .ref q] ∧ H p = some (.tup (mi l)) ∧ H q = some (.tup (mi l)) ∧ l.length ≤ 1000 ∧ ∀ H', Same H H' → Q (.bl true) H'
def spTruth : Sp := fun vs H Q _ => ∃ c d : Bool, vs = [.bl c, .bl d] ∧ Q (.bl (decide (c = d))) H
def sizesL (n : Int) : List Int := [n, n + 1, if n = 3 then 4 else n, 8 * n + 8, if n = 1 then 1 else 2, 4 * n + 4, hf n]
def spSizes : Sp := fun vs H Q _ => ∃ n : Int, vs = [.int n] ∧ 1 ≤ n ∧ n ≤ 3 ∧ ∀ p H', Same H H' → H' p = some (.tup (mi (sizesL n))) → Q (.ref p) H'
def spANum : Sp := fun vs H Q _ => ∃ (b : Addr) (n : Int), vs = [.ref b, .int (hf n)] ∧ Bag H b ∧ ∀ i H', -hf n ≤ i → i ≤ hf n - 1 → Kp b H H' → Q (.int i) H'
def spLarge : Sp := fun vs H Q _ => ∃ (b : Addr) (n : Int), vs = [.ref b, .int (hf n)] ∧ Bag H b ∧ ∀ i H', Kp b H H' → Q (.int i) H'
def spLWrap : Sp := fun vs H Q _ => ∃ (n i : Int), vs = [.int (hf n), .int i] ∧ Q (.int (wrapZ n i)) H
def spLWork : Sp := fun vs H Q _ => ∃ (n a b : Int) (op : Str), vs = [.int (hf n), .str op, .int a, .int b] ∧ Sml a ∧ Sml b ∧ Q (.int (workZ n op a b)) H
def spLBytes : Sp := fun vs H Q _ => ∃ (p : Addr) (n i : Int), vs = [.ref p, .int i] ∧ H p = some (.tup (mi (sizesL n))) ∧ 1 ≤ n ∧ n ≤ 3 ∧ ∀ p' H', Same H H' → H' p' = some (.tup (mi (bytesZ n i))) → Q (.ref p') H'
def spActs (K : PySem.W.Frag) : Sp := fun vs H Q _ => ∃ (b x p : Addr) (n : Int), vs = [.ref b, .ref x, .ref p] ∧ Bag H b ∧ Ver K H x n ∧ H p = some (.tup (mi (sizesL n))) ∧ ∀ H', Kp b H H' → Q (.bl true) H'
/-- data that repr shows -/
structure Sho (K : PySem.W.Frag) (H : Hp) (v : V) (d : PyData) : Prop where
  dp : Dp K H v d
  sh : d.showable = true
  nd : d.hasDict = false
  dep : d.depth ≤ 50
  len : d.shown.length ≤ sizeLine
theorem Sho.same {K : PySem.W.Frag} {H H' : Hp} {d : PyData} {v : V} (s : Same H H') (h : Sho K H v d) : Sho K H' v d := ⟨dp_same s h.dp, h.sh, h.nd, h.dep, h.len⟩
def oc1 (K : PySem.W.Frag) : List Value := [.ref (He.ga K "BadCommand"), .ref (He.ga K "BadMark"), .ref (He.ga K "BadPlain"), .ref (He.ga K "BadSeed"), .ref (He.ga K "BadSheet"), .ref (He.ga K "BadStory"), .ref (He.ga K "BadText"), .ref (He.ga K "BadTree"), .ref (He.ga K "BadWord")]
def oc2 (K : PySem.W.Frag) : List Value := [.ref (He.ga K "NoRoutine"), .ref (He.ga K "NoThing"), .ref (He.ga K "TooLong"), .ref (He.ga K "TooMany"), .ref (He.ga K "Torn"), .ref (He.ga K "Unknown")]
def spOC (K : PySem.W.Frag) : SpE := fun a cls d H Q => ∃ (D dd : Addr), cls = .ref D ∧ d = some dd ∧ (∃ fs, H dd = some (.xd fs)) ∧ ExcC K D ∧ PySem.W.kitAny K (.ref D) (oc1 K) = some false ∧ PySem.W.kitAny K (.ref D) (oc2 K) = some false ∧ ∀ H', Same H H' → Q (.bl false) H'
def spNoV (K : PySem.W.Frag) : Sp := fun vs H Q _ => ∃ (v : V) (d : PyData), vs = [v] ∧ BadI 1 3 H v ∧ Sho K H v d ∧ ∀ H', Same H H' → Q (.bl true) H'
def spNoN (K : PySem.W.Frag) : Sp := fun vs H Q _ => ∃ (x : Addr) (n : Int) (v : V) (d : PyData), vs = [.ref x, v] ∧ Ver K H x n ∧ BadI (-hf n) (hf n - 1) H v ∧ Sho K H v d ∧ ∀ H', Same H H' → Q (.bl true) H'
def spRef (K : PySem.W.Frag) : Sp := fun vs H Q _ => ∃ (b x : Addr) (n : Int), vs = [.ref b, .ref x, .int (hf n)] ∧ Bag H b ∧ Ver K H x n ∧ ∀ H', Kp b H H' → Q (.bl true) H'
def spLaw (K : PySem.W.Frag) : Sp := fun vs H Q _ => ∃ (a : Addr) (ns : List Int), vs = [.ref a] ∧ SqL K H a (ns.map V.int) ∧ ns.length ≤ 1000 ∧ ∀ H', Q (.bl true) H'
def edgL (h : Int) : List Int := [0, 1, -1, 2, -2, h - 1, -h, h - 2, 1 - h, 255, 256, -256, -257, 30000]
def edg2 (h : Int) : List Int := [h / 2, h / 2 - 1, -h / 2, 127, 128, 32767, -32768]
theorem rep_bl : ∀ i : Nat, (List.replicate i true).map V.bl ++ [V.bl true] = V.bl true :: (List.replicate i true).map V.bl
  | 0 => rfl
  | i + 1 => by
    rw [List.replicate_succ, List.map_cons, List.cons_append, rep_bl i]
theorem hf_cases' (n : Int) : hf n = 32768 ∨ hf n = 8388608 ∨ hf n = 2147483648 := by
  unfold hf
  split
  · exact .inl rfl
  · split
    · exact .inr (.inl rfl)
    · exact .inr (.inr rfl)
theorem be_len : ∀ (k : Nat) (r : Int) (l : List Int), (be k r l).length = k + l.length
  | 0, _, l => by
    show l.length = 0 + l.length
    omega
  | k + 1, r, l => by
    show (be k (r / 256) (r % 256 :: l)).length = _
    rw [be_len k, List.length_cons]
    omega
theorem bytesZ_len {n i : Int} (h1 : 1 ≤ n) (h3 : n ≤ 3) : (bytesZ n i).length = (n + 1).toNat := by
  unfold bytesZ
  rw [be_len]
  rfl
theorem num_bytes {n i : Int} (h1 : 1 ≤ n) (h3 : n ≤ 3) (i0 : -hf n ≤ i) (i1 : i ≤ hf n - 1) : wrapZ n (sumB (bytesZ n i)) = i := by
  unfold wrapZ bytesZ
  rcases (by omega : n = 1 ∨ n = 2 ∨ n = 3) with rfl | rfl | rfl
  · have e : hf 1 = 32768 := rfl
    rw [e] at i0 i1 ⊢
    show ((((0 * 256 + _ / 256 % 256) * 256 + _ % 256) + 32768) % (32768 + 32768) - 32768 : Int) = i
    split <;> omega
  · have e : hf 2 = 8388608 := rfl
    rw [e] at i0 i1 ⊢
    show (((((0 * 256 + _ / 256 / 256 % 256) * 256 + _ / 256 % 256) * 256 + _ % 256) + 8388608) % (8388608 + 8388608) - 8388608 : Int) = i
    split <;> omega
  · have e : hf 3 = 2147483648 := rfl
    rw [e] at i0 i1 ⊢
    show ((((((0 * 256 + _ / 256 / 256 / 256 % 256) * 256 + _ / 256 / 256 % 256) * 256 + _ / 256 % 256) * 256 + _ % 256) + 2147483648) % (2147483648 + 2147483648) - 2147483648 : Int) = i
    split <;> omega
theorem wrap_in (n i : Int) : -hf n ≤ wrapZ n i ∧ wrapZ n i ≤ hf n - 1 := by
  unfold wrapZ
  rcases hf_cases' n with e | e | e <;> rw [e] <;> omega
theorem mi_isF : ∀ l : List Int, (mi l).all isF = true
  | [] => rfl
  | x :: l => by
    show (isF (.int x) && (mi l).all isF) = true
    rw [mi_isF l]
    rfl
theorem bytes_num {n : Int} {l : List Int} (h1 : 1 ≤ n) (h3 : n ≤ 3) (hl : l.length = (n + 1).toNat) (hb : ∀ o ∈ l, 0 ≤ o ∧ o ≤ 255) : bytesZ n (wrapZ n (sumB l)) = l := by
  unfold wrapZ bytesZ
  rcases (by omega : n = 1 ∨ n = 2 ∨ n = 3) with rfl | rfl | rfl
  · have e : hf 1 = 32768 := rfl
    rw [e]
    match l, hl with
    | [a, b], _ =>
      have ha := hb a (by simp)
      have hb' := hb b (by simp)
      show [_ / 256 % 256, _ % 256] = [a, b]
      have es : sumB [a, b] = (0 * 256 + a) * 256 + b := rfl
      rw [es]
      congr 1
      · split <;> omega
      · congr 1
        split <;> omega
  · have e : hf 2 = 8388608 := rfl
    rw [e]
    match l, hl with
    | [a, b, c], _ =>
      have ha := hb a (by simp)
      have hb' := hb b (by simp)
      have hc := hb c (by simp)
      show [_ / 256 / 256 % 256, _ / 256 % 256, _ % 256] = [a, b, c]
      have es : sumB [a, b, c] = ((0 * 256 + a) * 256 + b) * 256 + c := rfl
      rw [es]
      congr 1
      · split <;> omega
      · congr 1
        · split <;> omega
        · congr 1
          split <;> omega
  · have e : hf 3 = 2147483648 := rfl
    rw [e]
    match l, hl with
    | [a, b, c, d], _ =>
      have ha := hb a (by simp)
      have hb' := hb b (by simp)
      have hc := hb c (by simp)
      have hd := hb d (by simp)
      show [_ / 256 / 256 / 256 % 256, _ / 256 / 256 % 256, _ / 256 % 256, _ % 256] = [a, b, c, d]
      have es : sumB [a, b, c, d] = (((0 * 256 + a) * 256 + b) * 256 + c) * 256 + d := rfl
      rw [es]
      congr 1
      · split <;> omega
      · congr 1
        · split <;> omega
        · congr 1
          · split <;> omega
          · congr 1
            split <;> omega
theorem kb_none_int : kitB "NoneType" "int" = some false := by decide +kernel
theorem kb_str_int : kitB "str" "int" = some false := by decide +kernel
theorem kb_list_int : kitB "list" "int" = some false := by decide +kernel
theorem kb_tuple_int : kitB "tuple" "int" = some false := by decide +kernel
abbrev thL (wd : Int) (q1 q2 : Addr) : List V := [V.int 0, V.int 4, V.int (-1), V.int (4 + wd), V.int (-1 - wd), V.bl true, V.bl false, V.non, V.str "1", V.str "", V.ref q1, V.ref q2, V.int (10 ^ Int.toNat 39)]
theorem sho_int {K : PySem.W.Frag} {H : Hp} {i : Int} (h : i.natAbs < 10 ^ 12) : Sho K H (.int i) (.int i) :=
  ⟨.int i, decide_eq_true (Nat.lt_trans (PySem.Flt.log2_lt_of (by decide) (Nat.lt_trans h (by decide : 10 ^ 12 < 2 ^ 64))) (by decide)), rfl, (show 0 ≤ 50 by decide), Nat.le_trans (PyData.shown_int_le h) (by decide)⟩
theorem sho_big {K : PySem.W.Frag} {H : Hp} : Sho K H (.int (10 ^ Int.toNat 39)) (.int (10 ^ Int.toNat 39)) := ⟨.int _, by decide +kernel, rfl, by decide +kernel, by decide +kernel⟩
theorem thL_bad {K : PySem.W.Frag} {H : Hp} {q1 q2 : Addr} {v : V} {wd : Int} (w : 0 ≤ wd ∧ wd ≤ 4294967296) (hm : v ∈ thL wd q1 q2) (h1 : H q1 = some (.tup [.int 1])) (h2 : H q2 = some (.lst [.int 2])) : ∃ d, BadI 1 3 H v ∧ Sho K H v d := by
  simp only [thL, List.mem_cons, List.not_mem_nil, or_false] at hm
  rcases hm with rfl | rfl | rfl | rfl | rfl | rfl | rfl | rfl | rfl | rfl | rfl | rfl | rfl
  · exact ⟨_, .inr ⟨_, rfl, by decide⟩, sho_int (by decide)⟩
  · exact ⟨_, .inr ⟨_, rfl, by decide⟩, sho_int (by decide)⟩
  · exact ⟨_, .inr ⟨_, rfl, by decide⟩, sho_int (by decide)⟩
  · exact ⟨_, .inr ⟨_, rfl, by omega⟩, sho_int (by omega)⟩
  · exact ⟨_, .inr ⟨_, rfl, by omega⟩, sho_int (by omega)⟩
  · exact ⟨.bool true, .inl (.inr ⟨_, rfl⟩), ⟨.bl true, by decide, rfl, by decide, by decide +kernel⟩⟩
  · exact ⟨.bool false, .inl (.inr ⟨_, rfl⟩), ⟨.bl false, by decide, rfl, by decide, by decide +kernel⟩⟩
  · exact ⟨.none, .inl (.inl ⟨_, tyv_non, kb_none_int⟩), ⟨.non, by decide, rfl, by decide, by decide +kernel⟩⟩
  · exact ⟨.str "1", .inl (.inl ⟨_, tyv_str, kb_str_int⟩), ⟨.str _, by decide, rfl, by decide, by decide +kernel⟩⟩
  · exact ⟨.str "", .inl (.inl ⟨_, tyv_str, kb_str_int⟩), ⟨.str _, by decide, rfl, by decide, by decide +kernel⟩⟩
  · exact ⟨.tuple [.int 1], .inl (.inl ⟨_, tyv_tup h1, kb_tuple_int⟩), ⟨.tup (.inl (.inl h1)) (.cons (.int _) .nil), by decide, rfl, by decide, by decide +kernel⟩⟩
  · exact ⟨.list [.int 2], .inl (.inl ⟨_, tyv_lst h2, kb_list_int⟩), ⟨.lst (.inl (.inl h2)) (.cons (.int _) .nil), by decide, rfl, by decide, by decide +kernel⟩⟩
  · exact ⟨_, .inr ⟨_, rfl, by decide +kernel⟩, sho_big⟩
abbrev noL (n wd : Int) (q1 q2 : Addr) : List V := [V.int (hf n), V.int (-hf n - 1), V.int (hf n + wd), V.int (-hf n - 1 - wd), V.bl true, V.bl false, V.non, V.str "7", V.ref q1, V.ref q2, V.int (10 ^ Int.toNat 39)]
theorem noL_bad {K : PySem.W.Frag} {H : Hp} {q1 q2 : Addr} {v : V} {n wd : Int} (w : 0 ≤ wd ∧ wd ≤ 4294967296) (hm : v ∈ noL n wd q1 q2) (h1 : H q1 = some (.tup [.int 3])) (h2 : H q2 = some (.lst [.int 4])) : ∃ d, BadI (-hf n) (hf n - 1) H v ∧ Sho K H v d := by
  have hl := hf_lo n
  simp only [noL, List.mem_cons, List.not_mem_nil, or_false] at hm
  rcases hm with rfl | rfl | rfl | rfl | rfl | rfl | rfl | rfl | rfl | rfl | rfl
  · exact ⟨_, .inr ⟨_, rfl, by omega⟩, sho_int (by omega)⟩
  · exact ⟨_, .inr ⟨_, rfl, by omega⟩, sho_int (by omega)⟩
  · exact ⟨_, .inr ⟨_, rfl, by omega⟩, sho_int (by omega)⟩
  · exact ⟨_, .inr ⟨_, rfl, by omega⟩, sho_int (by omega)⟩
  · exact ⟨.bool true, .inl (.inr ⟨_, rfl⟩), ⟨.bl true, by decide, rfl, by decide, by decide +kernel⟩⟩
  · exact ⟨.bool false, .inl (.inr ⟨_, rfl⟩), ⟨.bl false, by decide, rfl, by decide, by decide +kernel⟩⟩
  · exact ⟨.none, .inl (.inl ⟨_, tyv_non, kb_none_int⟩), ⟨.non, by decide, rfl, by decide, by decide +kernel⟩⟩
  · exact ⟨.str "7", .inl (.inl ⟨_, tyv_str, kb_str_int⟩), ⟨.str _, by decide, rfl, by decide, by decide +kernel⟩⟩
  · exact ⟨.tuple [.int 3], .inl (.inl ⟨_, tyv_tup h1, kb_tuple_int⟩), ⟨.tup (.inl (.inl h1)) (.cons (.int _) .nil), by decide, rfl, by decide, by decide +kernel⟩⟩
  · exact ⟨.list [.int 4], .inl (.inl ⟨_, tyv_lst h2, kb_list_int⟩), ⟨.lst (.inl (.inl h2)) (.cons (.int _) .nil), by decide, rfl, by decide, by decide +kernel⟩⟩
  · have e : (10 : Int) ^ Int.toNat 39 > 4294967296 := by decide +kernel
    exact ⟨_, .inr ⟨_, rfl, by omega⟩, sho_big⟩
theorem mk_ver {K : PySem.W.Frag} {H : Hp} {n : Int} {x dx : Addr} {Q : VK} {E : XK} (nx : H x = none) (ndx : H dx = none) (h1 : 1 ≤ n) (h3 : n ≤ 3) (k : ∀ H', Same H H' → Ver K H' x n → Q .non H') : spVer K [.ref x, .int n] (upd (upd H dx (.own x)) x (.ins (He.ga K "Version") dx [])) Q E := by
  refine ⟨x, dx, _, rfl, upd_same, .inl ⟨n, rfl, h1, h3, fun H' hk hx => k H' (fun c o e => ?_) ⟨⟨dx, hx⟩, h1, h3⟩⟩⟩
  refine hk c o (ne_of_none e nx) ?_
  rw [upd_ne (ne_of_none e nx), upd_ne (ne_of_none e ndx)]
  exact e
local macro_rules | `(tactic| walk_at "rd") => `(tactic| try simp only [cx_K, L2.start, List.map_cons, List.map_nil, List.length_cons, List.length_nil, List.cons_append, List.nil_append, List.append_nil, Nat.reduceAdd, Nat.reduceSub, List.replicate, tSeq, tIfS, tTest, tB, tOp, tVar, tC, tAsg, gName, tRet, tRetN, tDrop, tCB, tCons, tNil, rI0, rI, tNext, tNot, tAnd, tOr, tIf, tAndV, tOrV, tNotV, tUn, rU, tDGet, sDPut, tCall, tCallS, tTup, tLst, tSl, tPart, tNoPart, rSlS, tM0, tM1, rIxLt, rIxTt, rIxSt, rLenL, rLenT, rLenS, rIntI, rOrd, rSlLt, tBM, tBM0, rAppend, rExtend, rRep, rCat, rIxQ, rLenQ, rTupQ, rTupL, rMin2, rAnd255, rNonIs, rNonNot, rNeL, rNeT, rEqT, rIns, rPopAt, rSetL, gSub, rExtQ, rSlQ, iList, iTup, iRng1, iRng2, iStr, tFld, sFld, gFld, gTup, tMethT, tMakeT, tCallE, rIntB, rOwnEq, rRepr, rIsI, tMake, tMeth, tChain, rLj, rJn, rIsBl, rNoBl, tRaiseFx, tMkFx, tAug, ipI, tCont, tBreak, gCons, gNil, rLstL, rLstT, rAllL, rAnyL, rMulS, rIsB, tYes, wipe, rEqL, rEq, rNe, scal, tyv_non, tyv_bl, tyv_int, tyv_str, kb_int_int, kb_int_bool, kb_bool_int, kb_bool_bool, kb_str_str, kb_int_str, kb_bool_str, kb_none_str, kb_list_str, kb_tuple_str, kb_dict_str, kb_tuple_tuple, kb_list_list, List.getElem?_cons_zero, List.getElem?_cons_succ, List.set_cons_zero, List.set_cons_succ, Option.some.injEq, V.int.injEq, V.str.injEq, V.bl.injEq, V.ref.injEq, V.ty.injEq, HO.lst.injEq, HO.tup.injEq, List.cons.injEq, reduceCtorEq, false_and, and_false, or_false, false_or, exists_false, and_true, true_and, exists_and_left, exists_eq_left, exists_eq_left', exists_eq, exists_eq', and_assoc, ite_dec, ite_ndec, upd_same, if_true, Bool.false_eq_true, if_false, Bool.not_true, Bool.not_false])
section
variable {P : Program} {w : World} {K : PySem.W.Frag} {mg : Str → Option Value} {base : Heap}
theorem ok_is_integer (S : Src K mg "is_integer" s_is_integer) (T : Tx P K mg)   : Cal P w K mg base CX0 1 "is_integer" ["thing", "low", "high"] spIsInt := by
  refine S.cal sc_is_integer bn_is_integer (fun vs H Q E h => ?_) (fun f cdv A outer s H vs Q E hr h => ?_)
  · first | (obtain ⟨rfl, _⟩ := h; rfl) | (obtain ⟨_, rfl, _⟩ := h; rfl) | (obtain ⟨_, _, rfl, _⟩ := h; rfl) | (obtain ⟨_, _, _, rfl, _⟩ := h; rfl) | (obtain ⟨_, _, _, _, rfl, _⟩ := h; rfl) | (obtain ⟨_, _, _, _, _, rfl, _⟩ := h; rfl) | (obtain ⟨_, _, _, _, _, _, rfl, _⟩ := h; rfl)
  · skip
    refine ⟨_, (pss_one (ps_ret (pe_and (Fx.pe_cB Fx.is_B T.b_isinstance (by decide +kernel) (Fx.pa_c (pv 0) (Fx.pa_c (pe_bltn (v := .ty "int") (by rfl) T.b_int (by decide +kernel) rfl) pa_nil))) (pe_and (pe_not (Fx.pe_cB Fx.is_B T.b_isinstance (by decide +kernel) (Fx.pa_c (pv 0) (Fx.pa_c (pe_bltn (v := .ty "bool") (by rfl) T.b_bool (by decide +kernel) rfl) pa_nil)))) (pe_one (pe_chain op_le op_le (pv 1) (pv 0) (pv 2))))))), ?_⟩
    obtain ⟨v, lo, hi, rfl, h⟩ := h
    walk_at "rd"
    rcases h with ⟨i, rfl, q⟩ | ⟨hb, q⟩
    · refine ⟨_, tyv_int, _, kb_int_int, ?_⟩
      rw [if_pos rfl]
      refine ⟨_, tyv_int, _, kb_int_bool, ite_i (fun _ => ?_) (fun h => absurd rfl h)⟩
      refine ⟨i, rfl, ite_i (fun h1 => ⟨i, rfl, ?_⟩) (fun h1 => ?_)⟩
      · have e : decide (i ≤ hi) = decide (lo ≤ i ∧ i ≤ hi) := by simp [h1]
        rw [e]
        exact q
      · rw [decide_eq_false (by omega)] at q
        exact q
    · rcases hb with ⟨t, ht, hk⟩ | ⟨b, rfl⟩
      · exact ⟨t, ht, _, hk, q⟩
      · refine ⟨_, tyv_bl, _, kb_bool_int, ?_⟩
        rw [if_pos rfl]
        exact ⟨_, tyv_bl, _, kb_bool_bool, q⟩
end
section
variable {P : Program} {w : World} {K : PySem.W.Frag} {mg : Str → Option Value} {base : Heap}
theorem ok_Version_MU_initU {f0 : Addr} {fd : FuncData} (F : FunD K "__init__" "Version.__init__" (defArgs s_Version_MU_initU) (defBody s_Version_MU_initU) (defScope s_Version_MU_initU) [] [] f0 fd) (M : Mk K (He.ga K "Version") f0) (T : Tx P K mg) (C_is_integer : Cal P w K mg base CX0 1 "is_integer" ["thing", "low", "high"] spIsInt)  : CalI P w K mg base (L2.CX P w) 3 (He.ga K "Version") ["self", "version"] (spVer K) := by
  refine ⟨f0, fd, M, F.bindsN bn_Version_MU_initU, okX F sc_Version_MU_initU (fun vs H Q E h => ?_) (fun f cdv A outer s H vs Q E hr h => ?_)⟩
  · first | (obtain ⟨rfl, _⟩ := h; rfl) | (obtain ⟨_, rfl, _⟩ := h; rfl) | (obtain ⟨_, _, rfl, _⟩ := h; rfl) | (obtain ⟨_, _, _, rfl, _⟩ := h; rfl) | (obtain ⟨_, _, _, _, rfl, _⟩ := h; rfl) | (obtain ⟨_, _, _, _, _, rfl, _⟩ := h; rfl) | (obtain ⟨_, _, _, _, _, _, rfl, _⟩ := h; rfl)
  · skip
    refine ⟨_, (pss_cons (ps_if (pt_not (pt_val (Fx.pe_cal C_is_integer (hr.mono (by decide)) pass0 (Fx.pa_c (pv 1) (Fx.pa_c pe_int (Fx.pa_c pe_int pa_nil)))))) (pss_one (Fx.ps_raiseFx rfl T.x_BadVersion T.g_BadVersion T.b_super hr (takes_of rfl rfl rfl rfl) (Fx.pa_c (pv 1) pa_nil))) pss_nil)
        (pss_cons (ps_fld (pv 0) (pv 1) rfl)
        (pss_one (ps_asg (pe_ix ix_tup (Fx.pe_cst T.c_SIZES) (pe_op op_sub (pv 1) pe_int) (fun _ _ => rfl)) (pg_tup rfl (pgs_cons (Fx.pg_fld (pv 0)) (pgs_cons (Fx.pg_fld (pv 0)) (pgs_cons (Fx.pg_fld (pv 0)) (pgs_cons (Fx.pg_fld (pv 0)) (pgs_cons (Fx.pg_fld (pv 0)) (pgs_cons (Fx.pg_fld (pv 0)) pgs_nil))))))))))), ?_⟩
    obtain ⟨x, dx, v, rfl, hx, h⟩ := h
    refine seqI fun K1 k1 => ?_
    walk_at "rd"
    rcases h with ⟨n, rfl, h1, h3, q⟩ | ⟨hb, q⟩
    · refine ⟨_, _, _, rfl, .inl ⟨n, rfl, _, rfl, ?_⟩⟩
      rw [decide_eq_true ⟨h1, h3⟩, if_neg (by decide)]
      refine k1 _ _ ?_
      clear k1
      obtain ⟨as, hA, hr⟩ := tupsB_ok T.t_SIZES
      obtain ⟨i, a1, a2, a3, a4, a5, a6, ei, es, ev⟩ : ∃ (i : Nat) (a1 a2 a3 a4 a5 a6 : Int), n - 1 = (i : Int) ∧ sizes[i]? = some [a1, a2, a3, a4, a5, a6] ∧ verF n = verL n a1 a2 a3 a4 a5 a6 := by
        rcases (by omega : n = 1 ∨ n = 2 ∨ n = 3) with rfl | rfl | rfl
        · exact ⟨0, 2, 1, 16, 1, 8, 32768, rfl, rfl, rfl⟩
        · exact ⟨1, 3, 2, 24, 2, 12, 8388608, rfl, rfl, rfl⟩
        · exact ⟨2, 4, 4, 32, 2, 16, 2147483648, rfl, rfl, rfl⟩
      obtain ⟨a, ha, hs⟩ := hr i _ es
      walk_at "rd"
      rw [ei]
      refine ⟨_, _, _, hx, T.cl_Version, T.n_Version_number, by decide, ?_⟩
      have l1 := putF_len "number" (.int n) [] 0 (Nat.le_refl _)
      have l2 := putF_len "width" (.int a1) _ _ l1
      have l3 := putF_len "scale" (.int a2) _ _ l2
      have l4 := putF_len "marks" (.int a3) _ _ l3
      have l5 := putF_len "link" (.int a4) _ _ l4
      have l6 := putF_len "cut" (.int a5) _ _ l5
      refine ⟨_, _, _, _, rfl, rfl, hA _, atI_get (by rw [List.getElem?_map, ha]; rfl), a, rfl, _, hs _, rfl, _, _, rfl, _, _, _, upd_same, T.cl_Version, T.n_Version_width, by omega, ?_⟩
      refine ⟨_, _, rfl, _, _, _, rfl, T.cl_Version, T.n_Version_scale, by omega, _, _, rfl, _, _, _, rfl, T.cl_Version, T.n_Version_marks, by omega, _, _, rfl, _, _, _, rfl, T.cl_Version, T.n_Version_link, by omega, _, _, rfl, _, _, _, rfl, T.cl_Version, T.n_Version_cut, by omega, _, _, rfl, _, _, _, rfl, T.cl_Version, T.n_Version_half, by omega, rfl, ?_⟩
      refine q _ (fun b o hb e => ?_) ?_
      · simp only [upd_ne hb]
        exact e
      · rw [upd_same, ev]
        rfl
    · have fin : ∀ c : Bool, c = false → ∃ a, V.bl c = V.bl a ∧ if (!a) = true then ∀ (d : Addr), H d = none → E (Value.ref (He.ga K "BadVersion")) (some d) (upd H d (HO.xd [("version", v)])) else K1 [some (V.ref x), some v] H := by
        rintro c rfl
        exact ⟨false, rfl, ite_i (fun _ => fun d nd => q d _ (same_new nd) nd upd_same) (fun h => absurd rfl h)⟩
      rcases hb with hb | ⟨i, rfl, hn⟩
      · exact ⟨v, _, _, rfl, .inr ⟨hb, fin _ rfl⟩⟩
      · exact ⟨_, _, _, rfl, .inl ⟨i, rfl, fin _ (decide_eq_false hn)⟩⟩
end
section
variable {P : Program} {w : World} {K : PySem.W.Frag} {mg : Str → Option Value} {base : Heap}
theorem ok_Version_MU_eqU {f0 : Addr} {fd : FuncData} (F : FunD K "__eq__" "Version.__eq__" (defArgs s_Version_MU_eqU) (defBody s_Version_MU_eqU) (defScope s_Version_MU_eqU) [] [] f0 fd) (M : Meth K (He.ga K "Version") "__eq__" f0) (T : Tx P K mg)   : CalM P w K mg base CX0 1 (He.ga K "Version") "__eq__" ["self", "other"] (spVEq K) := by
  refine ⟨f0, fd, M, F.bindsN bn_Version_MU_eqU, ok0 F sc_Version_MU_eqU (fun vs H Q E h => ?_) (fun f cdv A outer s H vs Q E hr h => ?_)⟩
  · first | (obtain ⟨rfl, _⟩ := h; rfl) | (obtain ⟨_, rfl, _⟩ := h; rfl) | (obtain ⟨_, _, rfl, _⟩ := h; rfl) | (obtain ⟨_, _, _, rfl, _⟩ := h; rfl) | (obtain ⟨_, _, _, _, rfl, _⟩ := h; rfl) | (obtain ⟨_, _, _, _, _, rfl, _⟩ := h; rfl) | (obtain ⟨_, _, _, _, _, _, rfl, _⟩ := h; rfl)
  · skip
    refine ⟨_, (pss_one (ps_ret (pe_and (Fx.pe_cB Fx.is_I T.b_isinstance (by decide +kernel) (Fx.pa_c (pv 1) (Fx.pa_c (pe_glob (v := .ref (He.ga K "Version")) rfl T.g_Version rfl) pa_nil))) (pe_one (pe_cmpR op_eq (pe_fld (pv 0) rfl) (pe_fld (pv 1) rfl) (nomark _)))))), ?_⟩
    obtain ⟨x, y, n, m, rfl, ⟨⟨dx, hx⟩, n1, n3⟩, ⟨⟨dy, hy⟩, m1, m3⟩, q⟩ := h
    walk_at "rd"
    have hI := insC_of T.cl_Version T.i_Version
    refine ⟨_, _, _, hy, hI, _, rfl, _, hI.me, ?_⟩
    rw [if_pos rfl]
    refine ⟨_, _, _, hx, T.cl_Version, T.n_Version_number, _, rfl, _, _, _, hy, T.cl_Version, T.n_Version_number, _, rfl, rfl, ?_⟩
    have e : decide (V.int n = V.int m) = decide (n = m) := by simp
    rw [e]
    exact q
end
section
variable {P : Program} {w : World} {K : PySem.W.Frag} {mg : Str → Option Value} {base : Heap}
theorem ok_Version_M_wrap {f0 : Addr} {fd : FuncData} (F : FunD K "wrap" "Version.wrap" (defArgs s_Version_M_wrap) (defBody s_Version_M_wrap) (defScope s_Version_M_wrap) [] [] f0 fd) (M : Meth K (He.ga K "Version") "wrap" f0) (T : Tx P K mg)   : CalM P w K mg base CX0 1 (He.ga K "Version") "wrap" ["self", "integer"] (spWrap K) := by
  refine ⟨f0, fd, M, F.bindsN bn_Version_M_wrap, ok0 F sc_Version_M_wrap (fun vs H Q E h => ?_) (fun f cdv A outer s H vs Q E hr h => ?_)⟩
  · first | (obtain ⟨rfl, _⟩ := h; rfl) | (obtain ⟨_, rfl, _⟩ := h; rfl) | (obtain ⟨_, _, rfl, _⟩ := h; rfl) | (obtain ⟨_, _, _, rfl, _⟩ := h; rfl) | (obtain ⟨_, _, _, _, rfl, _⟩ := h; rfl) | (obtain ⟨_, _, _, _, _, rfl, _⟩ := h; rfl) | (obtain ⟨_, _, _, _, _, _, rfl, _⟩ := h; rfl)
  · skip
    refine ⟨_, (pss_cons (ps_set (i := 2) sc_Version_M_wrap.nd rfl (Or.inl rfl) (pe_op op_add (pe_fld (pv 0) rfl) (pe_fld (pv 0) rfl)))
        (pss_cons (ps_set (i := 3) sc_Version_M_wrap.nd rfl (Or.inl rfl) (pe_op op_sub (pv 1) (pe_op op_mul (pe_op op_fdivW (pv 1) (pv 2)) (pv 2))))
        (pss_cons (ps_if (pt_cmpR op_ge (pv 3) (pe_fld (pv 0) rfl) (nomark _)) (pss_one (ps_ret (pe_op op_sub (pv 3) (pv 2)))) pss_nil)
        (pss_one (ps_ret (pv 3)))))), ?_⟩
    obtain ⟨x, n, i, rfl, ⟨⟨dx, hx⟩, n1, n3⟩, q⟩ := h
    walk_at "rd"
    have hl := hf_lo n
    refine ⟨_, _, _, hx, T.cl_Version, T.n_Version_half, _, rfl, _, _, _, hx, T.cl_Version, T.n_Version_half, _, rfl, _, rfl, _, rfl, ?_⟩
    refine ⟨wide_div (b := 64) (by omega) (by omega) (by decide) (by decide), .inr (by omega), _, _, _, hx, T.cl_Version, T.n_Version_half, _, rfl, _, rfl, ?_⟩
    unfold wrapZ at q
    rcases hf_cases n1 n3 with ⟨_, e⟩ | ⟨_, e⟩ | ⟨_, e⟩ <;> rw [e] at q ⊢ <;> refine ite_i (fun h => ?_) (fun h => ?_)
    all_goals
      refine cast (congrArg (fun z => Q (V.int z) H) ?_) q
      omega
end
section
variable {P : Program} {w : World} {K : PySem.W.Frag} {mg : Str → Option Value} {base : Heap}
theorem ok_Version_M_is_number {f0 : Addr} {fd : FuncData} (F : FunD K "is_number" "Version.is_number" (defArgs s_Version_M_is_number) (defBody s_Version_M_is_number) (defScope s_Version_M_is_number) [] [] f0 fd) (M : Meth K (He.ga K "Version") "is_number" f0) (T : Tx P K mg) (C_is_integer : Cal P w K mg base CX0 1 "is_integer" ["thing", "low", "high"] spIsInt)  : CalM P w K mg base CX0 2 (He.ga K "Version") "is_number" ["self", "thing"] (spIsNum K) := by
  refine ⟨f0, fd, M, F.bindsN bn_Version_M_is_number, ok0 F sc_Version_M_is_number (fun vs H Q E h => ?_) (fun f cdv A outer s H vs Q E hr h => ?_)⟩
  · first | (obtain ⟨rfl, _⟩ := h; rfl) | (obtain ⟨_, rfl, _⟩ := h; rfl) | (obtain ⟨_, _, rfl, _⟩ := h; rfl) | (obtain ⟨_, _, _, rfl, _⟩ := h; rfl) | (obtain ⟨_, _, _, _, rfl, _⟩ := h; rfl) | (obtain ⟨_, _, _, _, _, rfl, _⟩ := h; rfl) | (obtain ⟨_, _, _, _, _, _, rfl, _⟩ := h; rfl)
  · skip
    refine ⟨_, (pss_one (ps_ret (Fx.pe_cal C_is_integer (hr.mono (by decide)) pass0 (Fx.pa_c (pv 1) (Fx.pa_c (pe_un un_neg (pe_fld (pv 0) rfl)) (Fx.pa_c (pe_op op_sub (pe_fld (pv 0) rfl) pe_int) pa_nil)))))), ?_⟩
    obtain ⟨x, n, v, rfl, ⟨⟨dx, hx⟩, n1, n3⟩, h⟩ := h
    walk_at "rd"
    exact ⟨_, _, _, hx, T.cl_Version, T.n_Version_half, _, rfl, _, rfl, _, _, _, hx, T.cl_Version, T.n_Version_half, _, rfl, _, rfl, v, _, _, rfl, h⟩
end
section
variable {P : Program} {w : World} {K : PySem.W.Frag} {mg : Str → Option Value} {base : Heap}
theorem ok_Version_M_bytes_of {f0 : Addr} {fd : FuncData} (F : FunD K "bytes_of" "Version.bytes_of" (defArgs s_Version_M_bytes_of) (defBody s_Version_M_bytes_of) (defScope s_Version_M_bytes_of) [] [] f0 fd) (M : Meth K (He.ga K "Version") "bytes_of" f0) (T : Tx P K mg) (C_Version_M_is_number : CalM P w K mg base CX0 2 (He.ga K "Version") "is_number" ["self", "thing"] (spIsNum K))  : CalM P w K mg base (L2.CX P w) 3 (He.ga K "Version") "bytes_of" ["self", "number"] (spBytes K) := by
  refine ⟨f0, fd, M, F.bindsN bn_Version_M_bytes_of, okX F sc_Version_M_bytes_of (fun vs H Q E h => ?_) (fun f cdv A outer s H vs Q E hr h => ?_)⟩
  · first | (obtain ⟨rfl, _⟩ := h; rfl) | (obtain ⟨_, rfl, _⟩ := h; rfl) | (obtain ⟨_, _, rfl, _⟩ := h; rfl) | (obtain ⟨_, _, _, rfl, _⟩ := h; rfl) | (obtain ⟨_, _, _, _, rfl, _⟩ := h; rfl) | (obtain ⟨_, _, _, _, _, rfl, _⟩ := h; rfl) | (obtain ⟨_, _, _, _, _, _, rfl, _⟩ := h; rfl)
  · skip
    obtain ⟨f_Version_M_is_number, fd_Version_M_is_number, m_Version_M_is_number, b_Version_M_is_number, G_Version_M_is_number⟩ := C_Version_M_is_number.ex
    refine ⟨_, (pss_cons (ps_if (pt_not (pt_val (pe_meth (pv 0) T.cl_Version m_Version_M_is_number G_Version_M_is_number (hr.mono (by decide)) b_Version_M_is_number .nil pass0 (Fx.pa_c (pv 1) pa_nil)))) (pss_one (Fx.ps_raiseFx rfl T.x_BadNumber T.g_BadNumber T.b_super hr (takes_of rfl rfl rfl rfl) (Fx.pa_c (pv 1) pa_nil))) pss_nil)
        (pss_cons (ps_set (i := 2) sc_Version_M_bytes_of.nd rfl (Or.inl rfl) (pv 1))
        (pss_cons (ps_if (pt_cmpR op_lt (pv 2) pe_int (nomark _)) (pss_one (ps_aug (i := 2) sc_Version_M_bytes_of.nd rfl (Or.inl rfl) (pe_op op_add (pe_fld (pv 0) rfl) (pe_fld (pv 0) rfl)) ip_add)) pss_nil)
        (pss_cons (ps_set (i := 3) sc_Version_M_bytes_of.nd rfl (Or.inl rfl) (pe_lst pa_nil))
        (pss_cons (ps_for (passes_of rfl) rfl (pi_range1 rfl T.b_range (Fx.pa_c (pe_fld (pv 0) rfl) pa_nil)) (pg_name (i := 4) sc_Version_M_bytes_of.nd rfl (Or.inl rfl)) (pss_cons (ps_expr (pe_bm PySem.F.plainAttrs_list PySem.F.slot_list_insert PySem.F.type_list_insert Fx.mt_ins (pv 3) (Fx.pa_c pe_int (Fx.pa_c (pe_op Fx.and_255 (pv 2) pe_int) pa_nil))))
        (pss_one (ps_set (i := 2) sc_Version_M_bytes_of.nd rfl (Or.inl rfl) (pe_op op_shr (pv 2) pe_int)))))
        (pss_one (ps_ret (Fx.pe_cTy Fx.tup_L T.b_tuple (by decide +kernel) (Fx.pa_c (pv 3) pa_nil))))))))), ?_⟩
    obtain ⟨x, n, v, rfl, hv, h⟩ := h
    obtain ⟨dx, hx⟩ := hv.1
    have hl := hf_lo n
    refine seqI fun K1 k1 => ?_
    walk_at "rd"
    refine ⟨_, _, hx, rfl, x, n, v, rfl, hv, ?_⟩
    rcases h with ⟨i, rfl, h1, h3, q⟩ | ⟨hb, q⟩
    · refine .inl ⟨i, rfl, _, rfl, ?_⟩
      rw [decide_eq_true ⟨h1, h3⟩, if_neg (by decide)]
      refine k1 _ _ ?_
      clear k1
      refine seqI fun K1 k1 => ?_
      walk_at "rd"
      refine k1 _ _ ?_
      clear k1
      refine seqI fun K1 k1 => ?_
      have go : K1 [some (V.ref x), some (.int i), some (.int (if i < 0 then i + (hf n + hf n) else i)), none, none] H := by
        refine k1 _ _ ?_
        clear k1
        unfold bytesZ at q
        generalize (if i < 0 then i + (hf n + hf n) else i) = r0 at q
        refine seqI fun K1 k1 => ?_
        walk_at "rd"
        refine ⟨by decide, fun p np => k1 _ _ ?_⟩
        clear k1
        have hx1 := same_new (o := .lst []) np _ _ hx
        refine seqI fun K1 k1 => ?_
        refine forI fun R kR => ?_
        walk_at "rd"
        refine ⟨_, _, _, hx1, T.cl_Version, T.n_Version_width, _, rfl, _, rfl, by have := hv.2; omega, by have := hv.2; omega, kR _ _ ?_⟩
        clear kR
        refine for_range (lo := 0) (n := (n + 1).toNat) (fun k σ H' => ∃ (r : Int) (l : List Int) (v4 : Option V), σ = [some (V.ref x), some (.int i), some (.int r), some (.ref p), v4] ∧ H' p = some (.lst (mi l)) ∧ l.length = k ∧ be ((n + 1).toNat - k) r l = be (n + 1).toNat r0 [] ∧ Same H H') ⟨r0, [], none, rfl, upd_same, rfl, rfl, same_new np⟩ ?_ ?_
        · rintro k σ H' hk ⟨r, l, v4, rfl, hp, ll, e, s1⟩
          clear k1
          walk_at "rd"
          have hw := hv.2
          refine ⟨tyL hp, _, hp, ?_, ?_⟩
          · rw [mi_len]
            exact Nat.lt_of_lt_of_le (by omega : _ < 100) (by decide)
          refine ⟨by decide, by decide, by decide, r % 256 :: l, rfl, by rw [List.length_cons, ll], ?_, Same.put s1 np⟩
          have e2 : (n + 1).toNat - k = ((n + 1).toNat - (k + 1)) + 1 := by omega
          rw [← e, e2]
          rfl
        · rintro σ H' ⟨r, l, v4, rfl, hp, ll, e, s1⟩
          refine k1 _ _ ?_
          walk_at "rd"
          refine ⟨_, hp, fun p2 n2 => q p2 _ (s1.trans (same_new n2)) ?_⟩
          rw [upd_same, ← e, Nat.sub_self]
          rfl
      refine ifI fun A B ka kb => ?_
      walk_at "rd"
      refine ite_i (fun h0 => ka _ ?_) (fun h0 => kb _ ?_)
      · walk_at "rd"
        rw [if_pos h0] at go
        exact ⟨_, _, _, hx, T.cl_Version, T.n_Version_half, _, rfl, _, _, _, hx, T.cl_Version, T.n_Version_half, _, rfl, _, rfl, _, rfl, go⟩
      · walk_at "rd"
        rw [if_neg h0] at go
        exact go
    · have fin : ∀ c : Bool, c = false → ∃ a, V.bl c = V.bl a ∧ if (!a) = true then ∀ (d : Addr), H d = none → E (Value.ref (He.ga K "BadNumber")) (some d) (upd H d (HO.xd [("number", v)])) else K1 [some (V.ref x), some v, none, none, none] H := by
        rintro c rfl
        exact ⟨false, rfl, ite_i (fun _ => fun d nd => q d _ (same_new nd) nd upd_same) (fun h => absurd rfl h)⟩
      rcases hb with hb | ⟨i, rfl, hn⟩
      · exact .inr ⟨hb, fin _ rfl⟩
      · exact .inl ⟨i, rfl, fin _ (decide_eq_false hn)⟩
end
section
variable {P : Program} {w : World} {K : PySem.W.Frag} {mg : Str → Option Value} {base : Heap}
theorem ok_Version_M_number_of {f0 : Addr} {fd : FuncData} (F : FunD K "number_of" "Version.number_of" (defArgs s_Version_M_number_of) (defBody s_Version_M_number_of) (defScope s_Version_M_number_of) [] [] f0 fd) (M : Meth K (He.ga K "Version") "number_of" f0) (T : Tx P K mg) (C_Version_M_wrap : CalM P w K mg base CX0 1 (He.ga K "Version") "wrap" ["self", "integer"] (spWrap K))  : CalM P w K mg base CX0 2 (He.ga K "Version") "number_of" ["self", "row"] (spNumOf K) := by
  refine ⟨f0, fd, M, F.bindsN bn_Version_M_number_of, ok0 F sc_Version_M_number_of (fun vs H Q E h => ?_) (fun f cdv A outer s H vs Q E hr h => ?_)⟩
  · first | (obtain ⟨rfl, _⟩ := h; rfl) | (obtain ⟨_, rfl, _⟩ := h; rfl) | (obtain ⟨_, _, rfl, _⟩ := h; rfl) | (obtain ⟨_, _, _, rfl, _⟩ := h; rfl) | (obtain ⟨_, _, _, _, rfl, _⟩ := h; rfl) | (obtain ⟨_, _, _, _, _, rfl, _⟩ := h; rfl) | (obtain ⟨_, _, _, _, _, _, rfl, _⟩ := h; rfl)
  · skip
    obtain ⟨f_Version_M_wrap, fd_Version_M_wrap, m_Version_M_wrap, b_Version_M_wrap, G_Version_M_wrap⟩ := C_Version_M_wrap.ex
    refine ⟨_, (pss_cons (ps_set (i := 2) sc_Version_M_number_of.nd rfl (Or.inl rfl) pe_int)
        (pss_cons (ps_for PassesOwn.never rfl (Fx.pi_Q (pv 1)) (pg_name (i := 3) sc_Version_M_number_of.nd rfl (Or.inl rfl)) (pss_one (ps_set (i := 2) sc_Version_M_number_of.nd rfl (Or.inl rfl) (pe_op op_add (pe_op op_mul (pv 2) pe_int) (pv 3)))))
        (pss_one (ps_ret (pe_meth (pv 0) T.cl_Version m_Version_M_wrap G_Version_M_wrap (hr.mono (by decide)) b_Version_M_wrap .nil pass0 (Fx.pa_c (pv 2) pa_nil)))))), ?_⟩
    obtain ⟨x, p, n, l, rfl, hv, hp, q⟩ := h
    obtain ⟨dx, hx⟩ := hv.1
    refine seqI fun K1 k1 => ?_
    walk_at "rd"
    refine k1 _ _ ?_
    clear k1
    refine seqI fun K1 k1 => ?_
    refine forQ (a := p) (xs := mi l) rfl hp (fun i σ H' => ∃ v3, σ = [some (V.ref x), some (V.ref p), some (.int (sumB (l.take i))), v3] ∧ H' = H) ⟨none, rfl, rfl⟩ (fun i σ H' ⟨_, _, e⟩ => e ▸ Same.refl H) ?_ ?_
    · rintro i y σ H' hy ⟨v3, rfl, rfl⟩
      obtain ⟨o, rfl, ho⟩ := mapI_some hy
      clear k1
      walk_at "rd"
      refine ⟨.inr (by decide), ?_⟩
      rw [sumB_step ho]
    · rintro σ H' ⟨v3, rfl, rfl⟩
      refine k1 _ _ ?_
      walk_at "rd"
      refine ⟨_, _, hx, rfl, x, n, _, rfl, hv, ?_⟩
      rw [List.take_of_length_le (by rw [mi_len]; exact Nat.le_refl _)]
      exact q
end
section
variable {P : Program} {w : World} {K : PySem.W.Frag} {mg : Str → Option Value} {base : Heap}
theorem ok_Version_M_work {f0 : Addr} {fd : FuncData} (F : FunD K "work" "Version.work" (defArgs s_Version_M_work) (defBody s_Version_M_work) (defScope s_Version_M_work) [] [] f0 fd) (M : Meth K (He.ga K "Version") "work" f0) (T : Tx P K mg) (C_Version_M_wrap : CalM P w K mg base CX0 1 (He.ga K "Version") "wrap" ["self", "integer"] (spWrap K))  : CalM P w K mg base CX0 2 (He.ga K "Version") "work" ["self", "op", "a", "b"] (spWork K) := by
  refine ⟨f0, fd, M, F.bindsN bn_Version_M_work, ok0 F sc_Version_M_work (fun vs H Q E h => ?_) (fun f cdv A outer s H vs Q E hr h => ?_)⟩
  · first | (obtain ⟨rfl, _⟩ := h; rfl) | (obtain ⟨_, rfl, _⟩ := h; rfl) | (obtain ⟨_, _, rfl, _⟩ := h; rfl) | (obtain ⟨_, _, _, rfl, _⟩ := h; rfl) | (obtain ⟨_, _, _, _, rfl, _⟩ := h; rfl) | (obtain ⟨_, _, _, _, _, rfl, _⟩ := h; rfl) | (obtain ⟨_, _, _, _, _, _, rfl, _⟩ := h; rfl)
  · skip
    obtain ⟨f_Version_M_wrap, fd_Version_M_wrap, m_Version_M_wrap, b_Version_M_wrap, G_Version_M_wrap⟩ := C_Version_M_wrap.ex
    refine ⟨_, (pss_cons (ps_if (pt_cmpR op_eq (pv 1) pe_str (nomark _)) (pss_one (ps_ret (pe_meth (pv 0) T.cl_Version m_Version_M_wrap G_Version_M_wrap (hr.mono (by decide)) b_Version_M_wrap .nil pass0 (Fx.pa_c (pe_op op_add (pv 2) (pv 3)) pa_nil)))) pss_nil)
        (pss_cons (ps_if (pt_cmpR op_eq (pv 1) pe_str (nomark _)) (pss_one (ps_ret (pe_meth (pv 0) T.cl_Version m_Version_M_wrap G_Version_M_wrap (hr.mono (by decide)) b_Version_M_wrap .nil pass0 (Fx.pa_c (pe_op op_sub (pv 2) (pv 3)) pa_nil)))) pss_nil)
        (pss_cons (ps_if (pt_cmpR op_eq (pv 1) pe_str (nomark _)) (pss_one (ps_ret (pe_meth (pv 0) T.cl_Version m_Version_M_wrap G_Version_M_wrap (hr.mono (by decide)) b_Version_M_wrap .nil pass0 (Fx.pa_c (pe_op op_mul (pv 2) (pv 3)) pa_nil)))) pss_nil)
        (pss_cons (ps_if (pt_cmpR op_eq (pv 3) pe_int (nomark _)) (pss_one (ps_ret pe_int)) pss_nil)
        (pss_cons (ps_set (i := 4) sc_Version_M_work.nd rfl (Or.inl rfl) (pe_op Fx.op_fdivZ (pv 2) (pv 3)))
        (pss_cons (ps_if (pt_cmpR op_eq (pv 1) pe_str (nomark _)) (pss_one (ps_ret (pe_meth (pv 0) T.cl_Version m_Version_M_wrap G_Version_M_wrap (hr.mono (by decide)) b_Version_M_wrap .nil pass0 (Fx.pa_c (pv 4) pa_nil)))) pss_nil)
        (pss_one (ps_ret (pe_op op_sub (pv 2) (pe_op op_mul (pv 3) (pv 4))))))))))), ?_⟩
    obtain ⟨x, n, a, b, op, rfl, hv, sa, sb, q⟩ := h
    walk_at "rd"
    obtain ⟨dx, hx⟩ := hv.1
    unfold workZ at q
    refine ite_i (fun h => ?_) (fun h => ?_)
    · rw [if_pos h] at q
      exact ⟨_, _, hx, rfl, x, n, _, rfl, hv, q⟩
    rw [if_neg h] at q
    refine ite_i (fun h => ?_) (fun h => ?_)
    · rw [if_pos h] at q
      exact ⟨_, _, hx, rfl, x, n, _, rfl, hv, q⟩
    rw [if_neg h] at q
    refine ite_i (fun h => ?_) (fun h => ?_)
    · rw [if_pos h] at q
      exact ⟨_, _, hx, rfl, .inl (by omega), x, n, _, rfl, hv, q⟩
    rw [if_neg h] at q
    refine ite_i (fun h => ?_) (fun h => ?_)
    · rw [if_pos h] at q
      exact q
    rw [if_neg h] at q
    refine ⟨cdivZ_of h (by omega), ite_i (fun h => ?_) (fun h => ?_)⟩
    · rw [if_pos h] at q
      exact ⟨_, _, hx, rfl, x, n, _, rfl, hv, q⟩
    rw [if_neg h] at q
    refine ⟨.inl (by omega), ?_⟩
    rw [Int.fmod_def] at q
    exact q
end
section
variable {P : Program} {w : World} {K : PySem.W.Frag} {mg : Str → Option Value} {base : Heap}
theorem ok_Version_M_greatest {f0 : Addr} {fd : FuncData} (F : FunD K "greatest" "Version.greatest" (defArgs s_Version_M_greatest) (defBody s_Version_M_greatest) (defScope s_Version_M_greatest) [] [] f0 fd) (M : Meth K (He.ga K "Version") "greatest" f0) (T : Tx P K mg)   : CalM P w K mg base CX0 1 (He.ga K "Version") "greatest" ["self", "bound"] (spGreat K) := by
  refine ⟨f0, fd, M, F.bindsN bn_Version_M_greatest, ok0 F sc_Version_M_greatest (fun vs H Q E h => ?_) (fun f cdv A outer s H vs Q E hr h => ?_)⟩
  · first | (obtain ⟨rfl, _⟩ := h; rfl) | (obtain ⟨_, rfl, _⟩ := h; rfl) | (obtain ⟨_, _, rfl, _⟩ := h; rfl) | (obtain ⟨_, _, _, rfl, _⟩ := h; rfl) | (obtain ⟨_, _, _, _, rfl, _⟩ := h; rfl) | (obtain ⟨_, _, _, _, _, rfl, _⟩ := h; rfl) | (obtain ⟨_, _, _, _, _, _, rfl, _⟩ := h; rfl)
  · skip
    refine ⟨_, (pss_cons (ps_if (pt_cmpR op_eq (pv 1) pe_int (nomark _)) (pss_one (ps_ret (pe_op op_sub (pe_fld (pv 0) rfl) pe_int))) pss_nil)
        (pss_one (ps_ret (pe_op op_sub (pv 1) pe_int)))), ?_⟩
    obtain ⟨x, n, b, rfl, ⟨⟨dx, hx⟩, n1, n3⟩, q⟩ := h
    walk_at "rd"
    refine ite_i (fun h0 => ⟨_, _, _, hx, T.cl_Version, T.n_Version_half, _, rfl, _, rfl, ?_⟩) (fun h0 => ?_)
    · rw [if_pos h0] at q
      exact q
    · rw [if_neg h0] at q
      exact q
end
section
variable {P : Program} {w : World} {K : PySem.W.Frag} {mg : Str → Option Value} {base : Heap}
theorem ok_within (S : Src K mg "within" s_within) (T : Tx P K mg)   : Cal P w K mg base CX0 1 "within" ["bound", "number"] spWithin := by
  refine S.cal sc_within bn_within (fun vs H Q E h => ?_) (fun f cdv A outer s H vs Q E hr h => ?_)
  · first | (obtain ⟨rfl, _⟩ := h; rfl) | (obtain ⟨_, rfl, _⟩ := h; rfl) | (obtain ⟨_, _, rfl, _⟩ := h; rfl) | (obtain ⟨_, _, _, rfl, _⟩ := h; rfl) | (obtain ⟨_, _, _, _, rfl, _⟩ := h; rfl) | (obtain ⟨_, _, _, _, _, rfl, _⟩ := h; rfl) | (obtain ⟨_, _, _, _, _, _, rfl, _⟩ := h; rfl)
  · skip
    refine ⟨_, (pss_one (ps_ret (pe_or (pe_cmpR op_eq (pv 0) pe_int (nomark _)) (pe_one (pe_chain op_le op_lt pe_int (pv 1) (pv 0)))))), ?_⟩
    obtain ⟨b, i, rfl, q⟩ := h
    walk_at "rd"
    unfold inB at q
    refine ite_i (fun h0 => ?_) (fun h0 => ite_i (fun h1 => ?_) (fun h1 => ?_))
    · rw [decide_eq_true h0, Bool.true_or] at q
      exact q
    · rw [decide_eq_false h0, decide_eq_true h1, Bool.false_or, Bool.true_and] at q
      exact q
    · rw [decide_eq_false h0, decide_eq_false h1, Bool.false_or, Bool.false_and] at q
      exact q
end
section
variable {P : Program} {w : World} {K : PySem.W.Frag} {mg : Str → Option Value} {base : Heap}
theorem ok__law_bagged (S : Src K mg "_law_bagged" s__law_bagged) (T : Tx P K mg)   : Cal P w K mg base CX0 1 "_law_bagged" ["_law_script"] (spBag K) := by
  refine S.cal sc__law_bagged bn__law_bagged (fun vs H Q E h => ?_) (fun f cdv A outer s H vs Q E hr h => ?_)
  · first | (obtain ⟨rfl, _⟩ := h; rfl) | (obtain ⟨_, rfl, _⟩ := h; rfl) | (obtain ⟨_, _, rfl, _⟩ := h; rfl) | (obtain ⟨_, _, _, rfl, _⟩ := h; rfl) | (obtain ⟨_, _, _, _, rfl, _⟩ := h; rfl) | (obtain ⟨_, _, _, _, _, rfl, _⟩ := h; rfl) | (obtain ⟨_, _, _, _, _, _, rfl, _⟩ := h; rfl)
  · skip
    refine ⟨_, (pss_cons (ps_set (i := 1) sc__law_bagged.nd rfl (Or.inl rfl) pe_int)
        (pss_cons (ps_for PassesOwn.never rfl (pi_list (pv 0)) (pg_name (i := 2) sc__law_bagged.nd rfl (Or.inl rfl)) (pss_one (ps_set (i := 1) sc__law_bagged.nd rfl (Or.inl rfl) (pe_op op_mod (Fx.pe_cTy Fx.int_I T.b_int (by decide +kernel) (Fx.pa_c (pe_op op_add (pe_op op_add (pe_op op_mul (pv 1) pe_int) (pv 2)) pe_int) pa_nil)) pe_int))))
        (pss_one (ps_ret (pe_disp (pps_cons pe_str (pe_lc (own := [("_law_cell", 2)]) rfl sc__law_bagged.nd (pi_list (pv 0)) (blkOk_by (N := N__law_bagged) (sc := defScope s__law_bagged) (by decide +kernel)) (fun _ _ _ _ _ => (pg_name (i := 2) sc__law_bagged.nd rfl (Or.inl rfl))) (fun _ _ _ _ _ => pts_nil) (fun _ _ _ _ _ => (pv 2))) (pps_cons pe_str pe_int (pps_cons pe_str pe_int (pps_cons pe_str (pv 1) (pps_cons pe_str pe_int pps_nil))))) (by rfl) (by rfl) (fun z => by cases z) (by decide)))))), ?_⟩
    obtain ⟨a, ns, rfl, hS, hlen, q⟩ := h
    refine seqI fun K1 k1 => ?_
    walk_at "rd"
    refine k1 _ _ ?_
    refine seqI fun K2 k2 => ?_
    refine ⟨_, rfl, a, rfl, ⟨_, hS⟩, for_list (K := K) (a := a) (xs := ns.map V.int) (fun i σ H' => ∃ (m : Int) (v : Option V), σ = [some (.ref a), some (.int m), v] ∧ H' = H) ⟨7, none, rfl, rfl⟩ (fun i σ H' _ ⟨_, _, _, e⟩ => by rw [e]; exact hS) ?_ ?_⟩
    · rintro i y σ H' hi ⟨m, v, rfl, rfl⟩
      obtain ⟨z, rfl⟩ : ∃ z, y = V.int z := by
        rw [List.getElem?_map] at hi
        cases e : ns[i]? with
        | none => rw [e] at hi; cases hi
        | some z => rw [e] at hi; exact ⟨z, (Option.some.inj hi).symm⟩
      walk_at "rd"
      exact ⟨.inr ⟨by decide, by decide⟩, by decide⟩
    · rintro σ H' ⟨m, v, rfl, rfl⟩
      refine k2 _ _ ?_
      intro p np
      refine ⟨.ref a, rfl, a, rfl, ⟨_, (same_new np).seq hS⟩, fun D hD => ?_⟩
      have hDp : D ≠ p := fun e => by rw [e, upd_same] at hD; cases hD
      refine lc_list (K := K) (a := a) (xs := ns.map V.int) (fun i H2 => H2 = upd (upd H' p (.dK [])) D (.lst ((ns.map V.int).take i))) rfl (fun i H2 _ e => ?_) ?_ ?_
      · rw [e]
        exact ((same_new np).trans (same_new hD)).seq hS
      · rintro i x H2 hx rfl
        refine ⟨rfl, ?_⟩
        walk_at "rd"
        refine ⟨?_, ?_⟩
        · rw [List.length_take]
          exact Nat.lt_of_le_of_lt (Nat.min_le_right _ _) (by rw [List.length_map]; exact Nat.lt_of_le_of_lt hlen (by decide))
        · rw [upd_upd, List.take_add_one, hx]
          rfl
      · rintro H2 rfl
        simp only [tPairs]
        walk_at "rd"
        have hpD : p ≠ D := fun e => hDp e.symm
        refine ⟨by rw [upd_ne hpD, upd_same], [(.inr "cells", .ref D), (.inr "at", .int 0), (.inr "rest", .int 0), (.inr "mixed", .int m), (.inr "count", .int 0)], rfl, (show 5 ≤ 15 by decide), ?_⟩
        refine q p _ (fun b o e => ?_) np ⟨D, ns, 0, 0, m, 0, upd_same, ?_, by decide⟩
        · rw [upd_ne (ne_of_none e np), upd_ne (ne_of_none (same_new np (o := .dK []) b o e) hD), upd_ne (ne_of_none e np)]
          exact e
        · rw [upd_ne hDp, upd_same, List.take_length]
end
section
variable {P : Program} {w : World} {K : PySem.W.Frag} {mg : Str → Option Value} {base : Heap}
theorem ok__law_pick (S : Src K mg "_law_pick" s__law_pick) (T : Tx P K mg)   : Cal P w K mg base CX0 1 "_law_pick" ["_law_bag", "_law_many"] spPick := by
  refine S.cal sc__law_pick bn__law_pick (fun vs H Q E h => ?_) (fun f cdv A outer s H vs Q E hr h => ?_)
  · first | (obtain ⟨rfl, _⟩ := h; rfl) | (obtain ⟨_, rfl, _⟩ := h; rfl) | (obtain ⟨_, _, rfl, _⟩ := h; rfl) | (obtain ⟨_, _, _, rfl, _⟩ := h; rfl) | (obtain ⟨_, _, _, _, rfl, _⟩ := h; rfl) | (obtain ⟨_, _, _, _, _, rfl, _⟩ := h; rfl) | (obtain ⟨_, _, _, _, _, _, rfl, _⟩ := h; rfl)
  · skip
    refine ⟨_, (pss_cons (ps_dput (hu_of hr) (pv 0) pe_str (pe_op op_add (pe_dget (hu_of hr) (pv 0) pe_str (fun _ _ => rfl)) pe_int) rfl)
        (pss_cons (ps_if (pt_cmpR op_gt (pe_dget (hu_of hr) (pv 0) pe_str (fun _ _ => rfl)) pe_int (nomark _)) (pss_cons (ps_set (i := 2) sc__law_pick.nd rfl (Or.inl rfl) (pe_dget (hu_of hr) (pv 0) pe_str (fun _ _ => rfl)))
        (pss_cons (ps_dput (hu_of hr) (pv 0) pe_str (pe_op op_fdiv (pv 2) (pv 1)) rfl)
        (pss_one (ps_ret (pe_op op_mod (Fx.pe_cTy Fx.int_I T.b_int (by decide +kernel) (Fx.pa_c (pv 2) pa_nil)) (pv 1)))))) pss_nil)
        (pss_cons (ps_set (i := 3) sc__law_pick.nd rfl (Or.inl rfl) pe_int)
        (pss_cons (ps_if (pt_cmpR op_lt (pe_dget (hu_of hr) (pv 0) pe_str (fun _ _ => rfl)) (Fx.pe_cB Fx.len_L T.b_len (by decide +kernel) (Fx.pa_c (pe_dget (hu_of hr) (pv 0) pe_str (fun _ _ => rfl)) pa_nil)) (nomark _)) (pss_cons (ps_set (i := 3) sc__law_pick.nd rfl (Or.inl rfl) (pe_ix Fx.ix_L (pe_dget (hu_of hr) (pv 0) pe_str (fun _ _ => rfl)) (pe_dget (hu_of hr) (pv 0) pe_str (fun _ _ => rfl)) (fun _ _ => rfl)))
        (pss_cons (ps_dput (hu_of hr) (pv 0) pe_str (pe_op op_add (pe_dget (hu_of hr) (pv 0) pe_str (fun _ _ => rfl)) pe_int) rfl)
        (pss_one (ps_if (pt_cmpR op_ge (pv 3) (pe_op op_pow pe_int pe_int) (nomark _)) (pss_cons (ps_dput (hu_of hr) (pv 0) pe_str (pe_op op_fdiv (pv 3) (pv 1)) rfl)
        (pss_one (ps_ret (pe_op op_mod (Fx.pe_cTy Fx.int_I T.b_int (by decide +kernel) (Fx.pa_c (pv 3) pa_nil)) (pv 1))))) pss_nil)))) pss_nil)
        (pss_cons (ps_set (i := 2) sc__law_pick.nd rfl (Or.inl rfl) (pe_op op_mod (Fx.pe_cTy Fx.int_I T.b_int (by decide +kernel) (Fx.pa_c (pe_op op_add (pe_op op_add (pe_op op_mul (pv 3) pe_int) (pe_op op_mul (pe_dget (hu_of hr) (pv 0) pe_str (fun _ _ => rfl)) pe_int)) (pe_op op_mul (pe_dget (hu_of hr) (pv 0) pe_str (fun _ _ => rfl)) pe_int)) pa_nil)) pe_int))
        (pss_cons (ps_set (i := 2) sc__law_pick.nd rfl (Or.inl rfl) (pe_op op_mod (Fx.pe_cTy Fx.int_I T.b_int (by decide +kernel) (Fx.pa_c (pe_op op_add (pe_op op_mul (pv 2) pe_int) pe_int) pa_nil)) pe_int))
        (pss_cons (ps_dput (hu_of hr) (pv 0) pe_str (pe_op op_mod (Fx.pe_cTy Fx.int_I T.b_int (by decide +kernel) (Fx.pa_c (pv 2) pa_nil)) pe_int) rfl)
        (pss_one (ps_ret (pe_op op_mod (Fx.pe_cTy Fx.int_I T.b_int (by decide +kernel) (Fx.pa_c (pe_op op_fdiv (pv 2) pe_int) pa_nil)) (pv 1))))))))))), ?_⟩
    obtain ⟨b, many, rfl, ⟨c, ns, a, r, m, n, hb, hc, ha⟩, h0, h1, q⟩ := h
    have hcb : c ≠ b := ne_of hc hb (by intro z; cases z)
    have hu : ∀ o, upd H b o c = some (.lst (ns.map V.int)) := fun o => by rw [upd_ne hcb]; exact hc
    walk_at "rd"
    simp only [dget_s hb, dput_s hb bag_len, dget_su, dput_su bag_len, bag_cells, bag_at, bag_rest, bag_mixed, bag_count, bag_atP, bag_restP, bag_mixedP, bag_countP, Option.some.injEq, exists_eq_left, exists_eq_left', V.int.injEq, V.ref.injEq, HO.lst.injEq, hu]
    have fin : ∀ (x y z u : Int) (n : Int), 0 ≤ n → n < many → 0 ≤ x → Q (.int n) (upd H b (.dK (bagKV c x y z u))) := fun x y z u n g1 g2 g3 =>
      q n _ g1 g2 ⟨fun p o hp e => by rw [upd_ne hp]; exact e, ⟨c, ns, x, y, z, u, upd_same, hu _, g3⟩, fun c' ⟨ns', x', y', z', u', e1, e2, e3⟩ => by
        rw [hb] at e1
        have ec : c = c' := by
          simp only [Option.some.injEq, HO.dK.injEq, bagKV, List.cons.injEq, Prod.mk.injEq, V.ref.injEq, true_and] at e1
          exact e1.1
        subst ec
        exact ⟨ns, x, y, z, u, upd_same, hu _, g3⟩⟩
    have mm : ∀ x : Int, 0 ≤ x % many ∧ x % many < many := fun x => ⟨Int.emod_nonneg _ (by omega), Int.emod_lt_of_pos _ h0⟩
    refine ite_i (fun hr => ⟨⟨h0, h1⟩, h0, fin _ _ _ _ _ (mm _).1 (mm _).2 ha⟩) (fun hr => ?_)
    refine ite_i (fun hl => ?_) (fun hl => ?_)
    · obtain ⟨x, ex⟩ := atI_ok ha hl
      refine ⟨.int x, ex, ?_⟩
      simp only [V.int.injEq, exists_eq_left', exists_eq_left]
      refine ⟨⟨by decide, by decide, by decide⟩, ite_i (fun hx => ⟨⟨h0, h1⟩, h0, fin _ _ _ _ _ (mm _).1 (mm _).2 (by omega)⟩) (fun hx => ?_)⟩
      exact ⟨.inr ⟨by decide, by decide⟩, .inr ⟨by decide, by decide⟩, .inr ⟨by decide, by decide⟩, by decide, .inr ⟨by decide, by decide⟩, by decide, by decide, ⟨by decide, by decide⟩, h0, fin _ _ _ _ _ (mm _).1 (mm _).2 (by omega)⟩
    · exact ⟨.inr ⟨by decide, by decide⟩, .inr ⟨by decide, by decide⟩, .inr ⟨by decide, by decide⟩, by decide, .inr ⟨by decide, by decide⟩, by decide, by decide, ⟨by decide, by decide⟩, h0, fin _ _ _ _ _ (mm _).1 (mm _).2 ha⟩
end
section
variable {P : Program} {w : World} {K : PySem.W.Frag} {mg : Str → Option Value} {base : Heap}
theorem ok__law_choice (S : Src K mg "_law_choice" s__law_choice) (T : Tx P K mg) (C__law_pick : Cal P w K mg base CX0 1 "_law_pick" ["_law_bag", "_law_many"] spPick)  : Cal P w K mg base CX0 2 "_law_choice" ["_law_bag", "_law_things"] spChoice := by
  refine S.cal sc__law_choice bn__law_choice (fun vs H Q E h => ?_) (fun f cdv A outer s H vs Q E hr h => ?_)
  · first | (obtain ⟨rfl, _⟩ := h; rfl) | (obtain ⟨_, rfl, _⟩ := h; rfl) | (obtain ⟨_, _, rfl, _⟩ := h; rfl) | (obtain ⟨_, _, _, rfl, _⟩ := h; rfl) | (obtain ⟨_, _, _, _, rfl, _⟩ := h; rfl) | (obtain ⟨_, _, _, _, _, rfl, _⟩ := h; rfl) | (obtain ⟨_, _, _, _, _, _, rfl, _⟩ := h; rfl)
  · skip
    refine ⟨_, (pss_one (ps_ret (pe_ix Fx.ix_L (pv 1) (Fx.pe_cal C__law_pick (hr.mono (by decide)) pass0 (Fx.pa_c (pv 0) (Fx.pa_c (Fx.pe_cB Fx.len_L T.b_len (by decide +kernel) (Fx.pa_c (pv 1) pa_nil)) pa_nil))) (fun _ _ => rfl)))), ?_⟩
    obtain ⟨b, p, l, rfl, hB, hp, l0, l1, q⟩ := h
    walk_at "rd"
    refine ⟨_, hp, b, _, rfl, hB, by rw [mi_len]; omega, by rw [mi_len]; omega, fun i H' i0 i1 kp => ⟨i, rfl, _, kp.lst hB hp, ?_⟩⟩
    obtain ⟨c, hc, hm⟩ := atI_mem (xs := mi l) i0 i1
    obtain ⟨z, hz, rfl⟩ := List.mem_map.mp hm
    exact ⟨_, hc, q z H' hz kp⟩
end
section
variable {P : Program} {w : World} {K : PySem.W.Frag} {mg : Str → Option Value} {base : Heap}
theorem ok__law_integer (S : Src K mg "_law_integer" s__law_integer) (T : Tx P K mg)   : Cal P w K mg base CX0 1 "_law_integer" ["_law_thing"] spInteger := by
  refine S.cal sc__law_integer bn__law_integer (fun vs H Q E h => ?_) (fun f cdv A outer s H vs Q E hr h => ?_)
  · first | (obtain ⟨rfl, _⟩ := h; rfl) | (obtain ⟨_, rfl, _⟩ := h; rfl) | (obtain ⟨_, _, rfl, _⟩ := h; rfl) | (obtain ⟨_, _, _, rfl, _⟩ := h; rfl) | (obtain ⟨_, _, _, _, rfl, _⟩ := h; rfl) | (obtain ⟨_, _, _, _, _, rfl, _⟩ := h; rfl) | (obtain ⟨_, _, _, _, _, _, rfl, _⟩ := h; rfl)
  · skip
    refine ⟨_, (pss_one (ps_ret (pe_and (Fx.pe_cB Fx.is_B T.b_isinstance (by decide +kernel) (Fx.pa_c (pv 0) (Fx.pa_c (pe_bltn (v := .ty "int") (by rfl) T.b_int (by decide +kernel) rfl) pa_nil))) (pe_one (pe_not (Fx.pe_cB Fx.is_B T.b_isinstance (by decide +kernel) (Fx.pa_c (pv 0) (Fx.pa_c (pe_bltn (v := .ty "bool") (by rfl) T.b_bool (by decide +kernel) rfl) pa_nil)))))))), ?_⟩
    obtain ⟨i, rfl, q⟩ := h
    walk_at "rd"
    exact q
end
section
variable {P : Program} {w : World} {K : PySem.W.Frag} {mg : Str → Option Value} {base : Heap}
theorem ok__law_integers (S : Src K mg "_law_integers" s__law_integers) (T : Tx P K mg) (C__law_integer : Cal P w K mg base CX0 1 "_law_integer" ["_law_thing"] spInteger)  : Cal P w K mg base CX0 2 "_law_integers" ["_law_actual", "_law_due"] spInts := by
  refine S.cal sc__law_integers bn__law_integers (fun vs H Q E h => ?_) (fun f cdv A outer s H vs Q E hr h => ?_)
  · first | (obtain ⟨rfl, _⟩ := h; rfl) | (obtain ⟨_, rfl, _⟩ := h; rfl) | (obtain ⟨_, _, rfl, _⟩ := h; rfl) | (obtain ⟨_, _, _, rfl, _⟩ := h; rfl) | (obtain ⟨_, _, _, _, rfl, _⟩ := h; rfl) | (obtain ⟨_, _, _, _, _, rfl, _⟩ := h; rfl) | (obtain ⟨_, _, _, _, _, _, rfl, _⟩ := h; rfl)
  · skip
    refine ⟨_, (pss_cons (ps_if (PW.pt (pw_or (pt_not (pt_val (Fx.pe_cB Fx.is_B T.b_isinstance (by decide +kernel) (Fx.pa_c (pv 0) (Fx.pa_c (pe_bltn (v := .ty "tuple") (by rfl) T.b_tuple (by decide +kernel) rfl) pa_nil))))) (pw_or1 (pt_cmpR op_ne (Fx.pe_cB Fx.len_T T.b_len (by decide +kernel) (Fx.pa_c (pv 0) pa_nil)) (Fx.pe_cB Fx.len_T T.b_len (by decide +kernel) (Fx.pa_c (pv 1) pa_nil)) (nomark _))))) (pss_one (ps_ret pe_bl)) pss_nil)
        (pss_one (ps_ret (Fx.pe_cB (Fx.all_L rfl) T.b_all (by decide +kernel) (Fx.pa_c (pe_lc (own := [("_law_k", 2)]) rfl sc__law_integers.nd (pi_range1 rfl T.b_range (Fx.pa_c (Fx.pe_cB Fx.len_T T.b_len (by decide +kernel) (Fx.pa_c (pv 1) pa_nil)) pa_nil)) (blkOk_by (N := N__law_integers) (sc := defScope s__law_integers) (by decide +kernel)) (fun _ _ _ _ _ => (pg_name (i := 2) sc__law_integers.nd rfl (Or.inl rfl))) (fun _ _ _ _ _ => pts_nil) (fun _ _ _ _ _ => (pe_and (Fx.pe_cal C__law_integer (hr.mono (by decide)) pass0 (Fx.pa_c (pe_ix Fx.ix_T (pv 0) (pv 2) (fun _ _ => rfl)) pa_nil)) (pe_one (pe_cmpR op_eq (pe_ix Fx.ix_T (pv 0) (pv 2) (fun _ _ => rfl)) (pe_ix Fx.ix_T (pv 1) (pv 2) (fun _ _ => rfl)) (nomark _)))))) pa_nil))))), ?_⟩
    obtain ⟨p, p2, l, rfl, hp, hq, ll, q⟩ := h
    refine seqI fun K1 k1 => ?_
    walk_at "rd"
    refine ⟨_, tyv_tup hp, _, kb_tuple_tuple, ?_⟩
    rw [if_neg (by decide)]
    refine ⟨_, hp, _, hq, ?_⟩
    rw [if_pos rfl]
    refine k1 _ _ ?_
    clear k1
    walk_at "rd"
    refine ⟨.ref p2, rfl, p2, _, rfl, hq, _, rfl, by rw [mi_len]; omega, by rw [mi_len]; omega, fun D nD => ?_⟩
    have e0 : (((mi l).length : Nat) : Int).toNat = l.length := by rw [mi_len]; omega
    rw [e0]
    refine lc_range (lo := 0) (n := l.length) (fun i H2 => H2 = upd H D (.lst ((List.replicate i true).map V.bl))) rfl ?_ ?_
    · rintro i H2 hi rfl
      refine ⟨rfl, ?_⟩
      have hp2 := same_new (o := .lst ((List.replicate i true).map V.bl)) nD _ _ hp
      have hq2 := same_new (o := .lst ((List.replicate i true).map V.bl)) nD _ _ hq
      have ga : atI (mi l) (0 + (i : Int)) = some (.int l[i]) := by rw [Int.zero_add]; exact atI_get (mapI_get hi)
      walk_at "rd"
      refine ⟨_, hp2, _, ga, _, rfl, _, rfl, ?_⟩
      rw [if_pos rfl]
      refine ⟨_, hp2, _, ga, _, hq2, _, ga, rfl, _, upd_same, ?_, ?_⟩
      · rw [List.length_map, List.length_replicate]
        exact Nat.lt_of_lt_of_le (by omega : _ < 2000) (by decide)
      · rw [upd_upd, decide_eq_true rfl, rep_bl]
    · rintro H2 rfl
      refine ⟨D, rfl, _, upd_same, ?_⟩
      have e : (List.replicate l.length true).all id = true := by simp
      rw [e]
      exact q _ (same_new nD)
end
section
variable {P : Program} {w : World} {K : PySem.W.Frag} {mg : Str → Option Value} {base : Heap}
theorem ok__law_truth (S : Src K mg "_law_truth" s__law_truth) (T : Tx P K mg)   : Cal P w K mg base CX0 1 "_law_truth" ["_law_actual", "_law_due"] spTruth := by
  refine S.cal sc__law_truth bn__law_truth (fun vs H Q E h => ?_) (fun f cdv A outer s H vs Q E hr h => ?_)
  · first | (obtain ⟨rfl, _⟩ := h; rfl) | (obtain ⟨_, rfl, _⟩ := h; rfl) | (obtain ⟨_, _, rfl, _⟩ := h; rfl) | (obtain ⟨_, _, _, rfl, _⟩ := h; rfl) | (obtain ⟨_, _, _, _, rfl, _⟩ := h; rfl) | (obtain ⟨_, _, _, _, _, rfl, _⟩ := h; rfl) | (obtain ⟨_, _, _, _, _, _, rfl, _⟩ := h; rfl)
  · skip
    refine ⟨_, (pss_one (ps_ret (pe_and (Fx.pe_cB Fx.is_B T.b_isinstance (by decide +kernel) (Fx.pa_c (pv 0) (Fx.pa_c (pe_bltn (v := .ty "bool") (by rfl) T.b_bool (by decide +kernel) rfl) pa_nil))) (pe_one (pe_cmpR op_eq (pv 0) (pv 1) (nomark _)))))), ?_⟩
    obtain ⟨c, d, rfl, q⟩ := h
    walk_at "rd"
    exact q
end
section
variable {P : Program} {w : World} {K : PySem.W.Frag} {mg : Str → Option Value} {base : Heap}
theorem ok__law_a_sizes (S : Src K mg "_law_a_sizes" s__law_a_sizes) (T : Tx P K mg)   : Cal P w K mg base CX0 1 "_law_a_sizes" ["_law_which"] spSizes := by
  refine S.cal sc__law_a_sizes bn__law_a_sizes (fun vs H Q E h => ?_) (fun f cdv A outer s H vs Q E hr h => ?_)
  · first | (obtain ⟨rfl, _⟩ := h; rfl) | (obtain ⟨_, rfl, _⟩ := h; rfl) | (obtain ⟨_, _, rfl, _⟩ := h; rfl) | (obtain ⟨_, _, _, rfl, _⟩ := h; rfl) | (obtain ⟨_, _, _, _, rfl, _⟩ := h; rfl) | (obtain ⟨_, _, _, _, _, rfl, _⟩ := h; rfl) | (obtain ⟨_, _, _, _, _, _, rfl, _⟩ := h; rfl)
  · skip
    refine ⟨_, (pss_one (ps_ret (pe_ix Fx.ix_L (pe_lst (Fx.pa_c (pe_tup (Fx.pa_c pe_int (Fx.pa_c pe_int (Fx.pa_c pe_int (Fx.pa_c pe_int (Fx.pa_c pe_int (Fx.pa_c pe_int (Fx.pa_c pe_int pa_nil)))))))) (Fx.pa_c (pe_tup (Fx.pa_c pe_int (Fx.pa_c pe_int (Fx.pa_c pe_int (Fx.pa_c pe_int (Fx.pa_c pe_int (Fx.pa_c pe_int (Fx.pa_c pe_int pa_nil)))))))) (Fx.pa_c (pe_tup (Fx.pa_c pe_int (Fx.pa_c pe_int (Fx.pa_c pe_int (Fx.pa_c pe_int (Fx.pa_c pe_int (Fx.pa_c pe_int (Fx.pa_c pe_int pa_nil)))))))) pa_nil)))) (pe_op op_sub (pv 0) pe_int) (fun _ _ => rfl)))), ?_⟩
    obtain ⟨n, rfl, n1, n3, q⟩ := h
    walk_at "rd"
    refine ⟨by decide, fun p1 m1 => ⟨by decide, fun p2 m2 => ⟨by decide, fun p3 m3 => ⟨by decide, fun p4 m4 => ?_⟩⟩⟩⟩
    have t1 := same_new (o := .tup (mi (sizesL 1))) m1
    have t2 := same_new (o := .tup (mi (sizesL 2))) m2
    have t3 := same_new (o := .tup (mi (sizesL 3))) m3
    have t4 := same_new (o := .lst [V.ref p1, V.ref p2, V.ref p3]) m4
    have sA := ((t1.trans t2).trans t3).trans t4
    rcases (by omega : n = 1 ∨ n = 2 ∨ n = 3) with rfl | rfl | rfl
    · exact ⟨_, rfl, q p1 _ sA (t4 _ _ (t3 _ _ (t2 _ _ upd_same)))⟩
    · exact ⟨_, rfl, q p2 _ sA (t4 _ _ (t3 _ _ upd_same))⟩
    · exact ⟨_, rfl, q p3 _ sA (t4 _ _ upd_same)⟩
end
section
variable {P : Program} {w : World} {K : PySem.W.Frag} {mg : Str → Option Value} {base : Heap}
theorem ok__law_a_number (S : Src K mg "_law_a_number" s__law_a_number) (T : Tx P K mg) (C__law_pick : Cal P w K mg base CX0 1 "_law_pick" ["_law_bag", "_law_many"] spPick) (C__law_choice : Cal P w K mg base CX0 2 "_law_choice" ["_law_bag", "_law_things"] spChoice)  : Cal P w K mg base CX0 3 "_law_a_number" ["_law_bag", "_law_half"] spANum := by
  refine S.cal sc__law_a_number bn__law_a_number (fun vs H Q E h => ?_) (fun f cdv A outer s H vs Q E hr h => ?_)
  · first | (obtain ⟨rfl, _⟩ := h; rfl) | (obtain ⟨_, rfl, _⟩ := h; rfl) | (obtain ⟨_, _, rfl, _⟩ := h; rfl) | (obtain ⟨_, _, _, rfl, _⟩ := h; rfl) | (obtain ⟨_, _, _, _, rfl, _⟩ := h; rfl) | (obtain ⟨_, _, _, _, _, rfl, _⟩ := h; rfl) | (obtain ⟨_, _, _, _, _, _, rfl, _⟩ := h; rfl)
  · skip
    refine ⟨_, (pss_cons (ps_set (i := 2) sc__law_a_number.nd rfl (Or.inl rfl) (Fx.pe_cal C__law_pick (hr.mono (by decide)) pass0 (Fx.pa_c (pv 0) (Fx.pa_c pe_int pa_nil))))
        (pss_cons (ps_if (pt_cmpR op_eq (pv 2) pe_int (nomark _)) (pss_cons (ps_set (i := 3) sc__law_a_number.nd rfl (Or.inl rfl) (pe_lst (Fx.pa_c pe_int (Fx.pa_c pe_int (Fx.pa_c (pe_un un_neg pe_int) (Fx.pa_c pe_int (Fx.pa_c (pe_un un_neg pe_int) (Fx.pa_c (pe_op op_sub (pv 1) pe_int) (Fx.pa_c (pe_un un_neg (pv 1)) (Fx.pa_c (pe_op op_sub (pv 1) pe_int) (Fx.pa_c (pe_op op_sub pe_int (pv 1)) (Fx.pa_c pe_int (Fx.pa_c pe_int (Fx.pa_c (pe_un un_neg pe_int) (Fx.pa_c (pe_un un_neg pe_int) (Fx.pa_c pe_int pa_nil))))))))))))))))
        (pss_one (ps_ret (Fx.pe_cal C__law_choice (hr.mono (by decide)) pass0 (Fx.pa_c (pv 0) (Fx.pa_c (pe_op op_cat (pv 3) (pe_lst (Fx.pa_c (pe_op op_fdiv (pv 1) pe_int) (Fx.pa_c (pe_op op_sub (pe_op op_fdiv (pv 1) pe_int) pe_int) (Fx.pa_c (pe_op op_fdiv (pe_un un_neg (pv 1)) pe_int) (Fx.pa_c pe_int (Fx.pa_c pe_int (Fx.pa_c pe_int (Fx.pa_c (pe_un un_neg pe_int) pa_nil))))))))) pa_nil)))))) pss_nil)
        (pss_cons (ps_if (pt_cmpR op_eq (pv 2) pe_int (nomark _)) (pss_one (ps_ret (pe_op op_sub (Fx.pe_cal C__law_pick (hr.mono (by decide)) pass0 (Fx.pa_c (pv 0) (Fx.pa_c pe_int pa_nil))) pe_int))) pss_nil)
        (pss_one (ps_ret (pe_op op_sub (pe_op op_add (pe_op op_mul (Fx.pe_cal C__law_pick (hr.mono (by decide)) pass0 (Fx.pa_c (pv 0) (Fx.pa_c (pe_op op_fdiv (pe_op op_add (pv 1) (pv 1)) pe_int) pa_nil))) pe_int) (Fx.pe_cal C__law_pick (hr.mono (by decide)) pass0 (Fx.pa_c (pv 0) (Fx.pa_c pe_int pa_nil)))) (pv 1))))))), ?_⟩
    obtain ⟨b, n, rfl, hB, q⟩ := h
    have hl := hf_lo n
    refine seqI fun K1 k1 => ?_
    walk_at "rd"
    refine ⟨b, 3, rfl, hB, by decide, by decide, fun w H1 w0 w1 kp1 => k1 _ _ ?_⟩
    clear k1
    refine seqI fun K1 k1 => ?_
    refine ifI fun A B ka kb => ?_
    walk_at "rd"
    refine ite_i (fun h0 => ka _ ?_) (fun h0 => kb _ ?_)
    · clear ka kb k1
      refine seqI fun K1 k1 => ?_
      walk_at "rd"
      refine ⟨by decide, fun p1 n1 => k1 _ _ ?_⟩
      clear k1
      have t1 := same_new (o := .lst (mi (edgL (hf n)))) n1
      have g1 := upd_same (H := H1) (a := p1) (o := .lst (mi (edgL (hf n))))
      show tRet _ _ _ (upd H1 p1 (.lst (mi (edgL (hf n)))))
      generalize upd H1 p1 (.lst (mi (edgL (hf n)))) = H2 at t1 g1
      have kp2 := kp1.then t1
      walk_at "rd"
      refine ⟨⟨by decide, by decide⟩, ⟨by decide, by decide⟩, ⟨by decide, by decide⟩, by decide, fun p3 n3 => ?_⟩
      have t3 := same_new (o := .lst (mi (edg2 (hf n)))) n3
      refine ⟨_, t3 _ _ g1, (show 14 + 7 ≤ sizeLine by decide), fun p4 n4 => ?_⟩
      have t4 := same_new (o := .lst (mi (edgL (hf n) ++ edg2 (hf n)))) n4
      have kp4 := (kp2.then t3).then t4
      refine ⟨b, p4, edgL (hf n) ++ edg2 (hf n), rfl, kp4.bag, upd_same, (show 0 < 21 by decide), (show 21 ≤ 1000 by decide), fun i H' hi kp5 => ?_⟩
      have hb : -hf n ≤ i ∧ i ≤ hf n - 1 := by
        simp only [edgL, edg2, List.cons_append, List.nil_append, List.mem_cons, List.not_mem_nil, or_false] at hi
        omega
      exact q i H' hb.1 hb.2 (kp4.trans kp5)
    walk_at "rd"
    refine k1 _ _ ?_
    clear ka kb k1 A B
    refine seqI fun K1 k1 => ?_
    walk_at "rd"
    refine ite_i (fun h1 => ?_) (fun h1 => k1 _ _ ?_)
    · exact ⟨b, 41, rfl, kp1.bag, by decide, by decide, fun i H2 i0 i1 kp2 => ⟨i, rfl, q _ _ (by omega) (by omega) (kp1.trans kp2)⟩⟩
    clear k1
    walk_at "rd"
    rcases hf_cases' n with e | e | e
    all_goals
      rw [e] at q ⊢
      refine ⟨⟨by decide, by decide⟩, b, _, rfl, kp1.bag, by decide, by decide, fun i H2 i0 i1 kp2 => ⟨i, rfl, .inr (by decide), b, _, rfl, kp2.bag, by decide, by decide, fun j H3 j0 j1 kp3 => ⟨j, rfl, q _ _ ?_ ?_ ((kp1.trans kp2).trans kp3)⟩⟩⟩
      · omega
      · omega
end
section
variable {P : Program} {w : World} {K : PySem.W.Frag} {mg : Str → Option Value} {base : Heap}
theorem ok__law_large (S : Src K mg "_law_large" s__law_large) (T : Tx P K mg) (C__law_pick : Cal P w K mg base CX0 1 "_law_pick" ["_law_bag", "_law_many"] spPick)  : Cal P w K mg base CX0 2 "_law_large" ["_law_bag", "_law_half"] spLarge := by
  refine S.cal sc__law_large bn__law_large (fun vs H Q E h => ?_) (fun f cdv A outer s H vs Q E hr h => ?_)
  · first | (obtain ⟨rfl, _⟩ := h; rfl) | (obtain ⟨_, rfl, _⟩ := h; rfl) | (obtain ⟨_, _, rfl, _⟩ := h; rfl) | (obtain ⟨_, _, _, rfl, _⟩ := h; rfl) | (obtain ⟨_, _, _, _, rfl, _⟩ := h; rfl) | (obtain ⟨_, _, _, _, _, rfl, _⟩ := h; rfl) | (obtain ⟨_, _, _, _, _, _, rfl, _⟩ := h; rfl)
  · skip
    refine ⟨_, (pss_cons (ps_if (pt_cmpR op_eq (Fx.pe_cal C__law_pick (hr.mono (by decide)) pass0 (Fx.pa_c (pv 0) (Fx.pa_c pe_int pa_nil))) pe_int (nomark _)) (pss_one (ps_ret (pe_op op_sub (pe_op op_add (pe_op op_mul (pe_op op_sub (Fx.pe_cal C__law_pick (hr.mono (by decide)) pass0 (Fx.pa_c (pv 0) (Fx.pa_c pe_int pa_nil))) pe_int) (pv 1)) (Fx.pe_cal C__law_pick (hr.mono (by decide)) pass0 (Fx.pa_c (pv 0) (Fx.pa_c pe_int pa_nil)))) pe_int))) pss_nil)
        (pss_cons (ps_set (i := 2) sc__law_large.nd rfl (Or.inl rfl) pe_int)
        (pss_cons (ps_for PassesOwn.never rfl (pi_range1 rfl T.b_range (Fx.pa_c (pe_op op_add pe_int (Fx.pe_cal C__law_pick (hr.mono (by decide)) pass0 (Fx.pa_c (pv 0) (Fx.pa_c pe_int pa_nil)))) pa_nil)) (pg_name (i := 3) sc__law_large.nd rfl (Or.inl rfl)) (pss_one (ps_set (i := 2) sc__law_large.nd rfl (Or.inl rfl) (pe_op op_add (pe_op op_mul (pv 2) pe_int) (Fx.pe_cal C__law_pick (hr.mono (by decide)) pass0 (Fx.pa_c (pv 0) (Fx.pa_c pe_int pa_nil)))))))
        (pss_cons (ps_if (pt_cmpR op_eq (Fx.pe_cal C__law_pick (hr.mono (by decide)) pass0 (Fx.pa_c (pv 0) (Fx.pa_c pe_int pa_nil))) pe_int (nomark _)) (pss_one (ps_ret (pv 2))) pss_nil)
        (pss_one (ps_ret (pe_un un_neg (pv 2)))))))), ?_⟩
    obtain ⟨b, n, rfl, hB, q⟩ := h
    refine seqI fun K1 k1 => ?_
    walk_at "rd"
    refine ⟨b, 2, rfl, hB, by decide, by decide, fun w H1 w0 w1 kp1 => ⟨rfl, ite_i (fun h0 => ?_) (fun h0 => k1 _ _ ?_)⟩⟩
    · exact ⟨b, 9, rfl, kp1.bag, by decide, by decide, fun i H2 i0 i1 kp2 => ⟨i, rfl, .inl (by omega), b, 5, rfl, kp2.bag, by decide, by decide, fun j H3 j0 j1 kp3 => ⟨j, rfl, q _ _ ((kp1.trans kp2).trans kp3)⟩⟩⟩
    clear k1
    refine seqI fun K1 k1 => ?_
    walk_at "rd"
    refine k1 _ _ ?_
    clear k1
    refine seqI fun K1 k1 => ?_
    refine forI fun R kR => ?_
    walk_at "rd"
    refine ⟨b, 8, rfl, kp1.bag, by decide, by decide, fun m H2 m0 m1 kp2 => ⟨m, rfl, by omega, by omega, kR _ _ ?_⟩⟩
    clear kR R
    refine for_range (lo := 0) (n := (1 + m).toNat) (fun k σ H' => ∃ (t : Int) (v3 : Option V), σ = [some (V.ref b), some (.int (hf n)), some (.int t), v3] ∧ Kp b H H') ⟨0, none, rfl, kp1.trans kp2⟩ ?_ ?_
    · rintro k σ H3 hk ⟨t, v3, rfl, kp⟩
      clear k1
      walk_at "rd"
      exact ⟨.inr (by decide), b, _, rfl, kp.bag, by decide, by decide, fun j H4 j0 j1 kp4 => ⟨j, rfl, kp.trans kp4⟩⟩
    rintro σ H3 ⟨t, v3, rfl, kp⟩
    refine k1 _ _ ?_
    clear k1
    refine seqI fun K1 k1 => ?_
    walk_at "rd"
    refine ⟨b, 2, rfl, kp.bag, by decide, by decide, fun j H4 j0 j1 kp4 => ⟨rfl, ite_i (fun h => ?_) (fun h => k1 _ _ ?_)⟩⟩
    · exact q _ _ (kp.trans kp4)
    walk_at "rd"
    exact q _ _ (kp.trans kp4)
end
section
variable {P : Program} {w : World} {K : PySem.W.Frag} {mg : Str → Option Value} {base : Heap}
theorem ok__law_wrapped (S : Src K mg "_law_wrapped" s__law_wrapped) (T : Tx P K mg)   : Cal P w K mg base CX0 1 "_law_wrapped" ["_law_half", "_law_number"] spLWrap := by
  refine S.cal sc__law_wrapped bn__law_wrapped (fun vs H Q E h => ?_) (fun f cdv A outer s H vs Q E hr h => ?_)
  · first | (obtain ⟨rfl, _⟩ := h; rfl) | (obtain ⟨_, rfl, _⟩ := h; rfl) | (obtain ⟨_, _, rfl, _⟩ := h; rfl) | (obtain ⟨_, _, _, rfl, _⟩ := h; rfl) | (obtain ⟨_, _, _, _, rfl, _⟩ := h; rfl) | (obtain ⟨_, _, _, _, _, rfl, _⟩ := h; rfl) | (obtain ⟨_, _, _, _, _, _, rfl, _⟩ := h; rfl)
  · skip
    refine ⟨_, (pss_one (ps_ret (pe_op op_sub (pe_op op_mod (Fx.pe_cTy Fx.int_I T.b_int (by decide +kernel) (Fx.pa_c (pe_op op_add (pv 1) (pv 0)) pa_nil)) (pe_op op_add (pv 0) (pv 0))) (pv 0)))), ?_⟩
    obtain ⟨n, i, rfl, q⟩ := h
    walk_at "rd"
    have hl := hf_lo n
    exact ⟨by omega, q⟩
end
section
variable {P : Program} {w : World} {K : PySem.W.Frag} {mg : Str → Option Value} {base : Heap}
theorem ok__law_worked (S : Src K mg "_law_worked" s__law_worked) (T : Tx P K mg) (C__law_wrapped : Cal P w K mg base CX0 1 "_law_wrapped" ["_law_half", "_law_number"] spLWrap)  : Cal P w K mg base CX0 2 "_law_worked" ["_law_half", "_law_op", "_law_a", "_law_b"] spLWork := by
  refine S.cal sc__law_worked bn__law_worked (fun vs H Q E h => ?_) (fun f cdv A outer s H vs Q E hr h => ?_)
  · first | (obtain ⟨rfl, _⟩ := h; rfl) | (obtain ⟨_, rfl, _⟩ := h; rfl) | (obtain ⟨_, _, rfl, _⟩ := h; rfl) | (obtain ⟨_, _, _, rfl, _⟩ := h; rfl) | (obtain ⟨_, _, _, _, rfl, _⟩ := h; rfl) | (obtain ⟨_, _, _, _, _, rfl, _⟩ := h; rfl) | (obtain ⟨_, _, _, _, _, _, rfl, _⟩ := h; rfl)
  · skip
    refine ⟨_, (pss_cons (ps_if (pt_cmpR op_eq (pv 1) pe_str (nomark _)) (pss_one (ps_ret (Fx.pe_cal C__law_wrapped (hr.mono (by decide)) pass0 (Fx.pa_c (pv 0) (Fx.pa_c (pe_op op_add (pv 2) (pv 3)) pa_nil))))) pss_nil)
        (pss_cons (ps_if (pt_cmpR op_eq (pv 1) pe_str (nomark _)) (pss_one (ps_ret (Fx.pe_cal C__law_wrapped (hr.mono (by decide)) pass0 (Fx.pa_c (pv 0) (Fx.pa_c (pe_op op_sub (pv 2) (pv 3)) pa_nil))))) pss_nil)
        (pss_cons (ps_if (pt_cmpR op_eq (pv 1) pe_str (nomark _)) (pss_one (ps_ret (Fx.pe_cal C__law_wrapped (hr.mono (by decide)) pass0 (Fx.pa_c (pv 0) (Fx.pa_c (pe_op op_mul (pv 2) (pv 3)) pa_nil))))) pss_nil)
        (pss_cons (ps_if (pt_cmpR op_eq (pv 3) pe_int (nomark _)) (pss_one (ps_ret pe_int)) pss_nil)
        (pss_cons (ps_if (pt_cmpR op_eq (pv 1) pe_str (nomark _)) (pss_one (ps_ret (Fx.pe_cal C__law_wrapped (hr.mono (by decide)) pass0 (Fx.pa_c (pv 0) (Fx.pa_c (pe_op Fx.op_fdivZ (pv 2) (pv 3)) pa_nil))))) pss_nil)
        (pss_one (ps_ret (pe_op op_modN (Fx.pe_cTy Fx.int_I T.b_int (by decide +kernel) (Fx.pa_c (pv 2) pa_nil)) (pv 3))))))))), ?_⟩
    obtain ⟨n, a, b, op, rfl, sa, sb, q⟩ := h
    walk_at "rd"
    unfold workZ at q
    refine ite_i (fun h => ?_) (fun h => ?_)
    · rw [if_pos h] at q
      exact ⟨n, _, rfl, q⟩
    rw [if_neg h] at q
    refine ite_i (fun h => ?_) (fun h => ?_)
    · rw [if_pos h] at q
      exact ⟨n, _, rfl, q⟩
    rw [if_neg h] at q
    refine ite_i (fun h => ?_) (fun h => ?_)
    · rw [if_pos h] at q
      exact ⟨.inl (by omega), n, _, rfl, q⟩
    rw [if_neg h] at q
    refine ite_i (fun h => ?_) (fun h => ?_)
    · rw [if_pos h] at q
      exact q
    rw [if_neg h] at q
    refine ite_i (fun h => ?_) (fun h => ?_)
    · rw [if_pos h] at q
      exact ⟨cdivZ_of ‹_› (by omega), n, _, rfl, q⟩
    rw [if_neg h] at q
    exact ⟨‹_›, q⟩
end
section
variable {P : Program} {w : World} {K : PySem.W.Frag} {mg : Str → Option Value} {base : Heap}
theorem ok__law_bytes (S : Src K mg "_law_bytes" s__law_bytes) (T : Tx P K mg)   : Cal P w K mg base CX0 1 "_law_bytes" ["_law_sizes", "_law_number"] spLBytes := by
  refine S.cal sc__law_bytes bn__law_bytes (fun vs H Q E h => ?_) (fun f cdv A outer s H vs Q E hr h => ?_)
  · first | (obtain ⟨rfl, _⟩ := h; rfl) | (obtain ⟨_, rfl, _⟩ := h; rfl) | (obtain ⟨_, _, rfl, _⟩ := h; rfl) | (obtain ⟨_, _, _, rfl, _⟩ := h; rfl) | (obtain ⟨_, _, _, _, rfl, _⟩ := h; rfl) | (obtain ⟨_, _, _, _, _, rfl, _⟩ := h; rfl) | (obtain ⟨_, _, _, _, _, _, rfl, _⟩ := h; rfl)
  · skip
    refine ⟨_, (pss_cons (ps_set (i := 2) sc__law_bytes.nd rfl (Or.inl rfl) (pv 1))
        (pss_cons (ps_if (pt_cmpR op_lt (pv 1) pe_int (nomark _)) (pss_one (ps_set (i := 2) sc__law_bytes.nd rfl (Or.inl rfl) (pe_op op_add (pe_op op_add (pv 1) (pe_ix Fx.ix_T (pv 0) pe_int (fun _ _ => rfl))) (pe_ix Fx.ix_T (pv 0) pe_int (fun _ _ => rfl))))) pss_nil)
        (pss_cons (ps_set (i := 3) sc__law_bytes.nd rfl (Or.inl rfl) (pe_lst pa_nil))
        (pss_cons (ps_for PassesOwn.never rfl (pi_range1 rfl T.b_range (Fx.pa_c (pe_ix Fx.ix_T (pv 0) pe_int (fun _ _ => rfl)) pa_nil)) (pg_name (i := 4) sc__law_bytes.nd rfl (Or.inl rfl)) (pss_cons (ps_set (i := 3) sc__law_bytes.nd rfl (Or.inl rfl) (pe_op op_cat (pe_lst (Fx.pa_c (pe_op op_mod (Fx.pe_cTy Fx.int_I T.b_int (by decide +kernel) (Fx.pa_c (pv 2) pa_nil)) pe_int) pa_nil)) (pv 3)))
        (pss_one (ps_set (i := 2) sc__law_bytes.nd rfl (Or.inl rfl) (pe_op op_fdiv (pv 2) pe_int)))))
        (pss_one (ps_ret (Fx.pe_cTy Fx.tup_L T.b_tuple (by decide +kernel) (Fx.pa_c (pv 3) pa_nil)))))))), ?_⟩
    obtain ⟨p, n, i, rfl, hp, n1, n3, q⟩ := h
    have hl := hf_lo n
    refine seqI fun K1 k1 => ?_
    walk_at "rd"
    refine k1 _ _ ?_
    clear k1
    refine seqI fun K1 k1 => ?_
    refine ifI fun A B ka kb => ?_
    have go : K1 [some (V.ref p), some (.int i), some (.int (if i < 0 then i + (hf n + hf n) else i)), none, none] H := by
      refine k1 _ _ ?_
      clear ka kb k1
      unfold bytesZ at q
      generalize (if i < 0 then i + (hf n + hf n) else i) = r0 at q
      refine seqI fun K1 k1 => ?_
      walk_at "rd"
      refine ⟨by decide, fun p1 np => k1 _ _ ?_⟩
      clear k1
      have hx1 := same_new (o := .lst []) np _ _ hp
      refine seqI fun K1 k1 => ?_
      refine forI fun R kR => ?_
      walk_at "rd"
      refine ⟨_, hx1, _, rfl, _, rfl, by omega, by omega, kR _ _ ?_⟩
      clear kR
      refine for_range (lo := 0) (n := (n + 1).toNat) (fun k σ H' => ∃ (r : Int) (l : List Int) (v4 : Option V) (p2 : Addr), σ = [some (V.ref p), some (.int i), some (.int r), some (.ref p2), v4] ∧ H' p2 = some (.lst (mi l)) ∧ l.length = k ∧ be ((n + 1).toNat - k) r l = be (n + 1).toNat r0 [] ∧ Same H H') ⟨r0, [], none, p1, rfl, upd_same, rfl, rfl, same_new np⟩ ?_ ?_
      · rintro k σ H' hk ⟨r, l, v4, p2, rfl, hp2, ll, e, s1⟩
        clear k1
        walk_at "rd"
        refine ⟨by decide, by decide, fun p3 n3 => ⟨_, same_new n3 _ _ hp2, ?_, fun p4 n4 => ⟨⟨by decide, by decide⟩, r % 256 :: l, rfl, by rw [List.length_cons, ll], ?_, (s1.trans (same_new n3)).trans (same_new n4)⟩⟩⟩
        · rw [mi_len]
          exact sz (by omega)
        have e2 : (n + 1).toNat - k = ((n + 1).toNat - (k + 1)) + 1 := by omega
        rw [← e, e2]
        rfl
      · rintro σ H' ⟨r, l, v4, p2, rfl, hp2, ll, e, s1⟩
        refine k1 _ _ ?_
        walk_at "rd"
        refine ⟨_, hp2, fun p3 n3 => q p3 _ (s1.trans (same_new n3)) ?_⟩
        rw [upd_same, ← e, Nat.sub_self]
        rfl
    walk_at "rd"
    refine ite_i (fun h0 => ka _ ?_) (fun h0 => kb _ ?_)
    · walk_at "rd"
      rw [if_pos h0] at go
      refine ⟨_, hp, _, rfl, _, rfl, _, hp, _, rfl, _, rfl, ?_⟩
      rw [Int.add_assoc]
      exact go
    · walk_at "rd"
      rw [if_neg h0] at go
      exact go
end
section
variable {P : Program} {w : World} {K : PySem.W.Frag} {mg : Str → Option Value} {base : Heap}
theorem ok__law_acts_hold (S : Src K mg "_law_acts_hold" s__law_acts_hold) (T : Tx P K mg) (C__law_a_number : Cal P w K mg base CX0 3 "_law_a_number" ["_law_bag", "_law_half"] spANum) (C__law_pick : Cal P w K mg base CX0 1 "_law_pick" ["_law_bag", "_law_many"] spPick) (C__law_choice : Cal P w K mg base CX0 2 "_law_choice" ["_law_bag", "_law_things"] spChoice) (C_Version_M_work : CalM P w K mg base CX0 2 (He.ga K "Version") "work" ["self", "op", "a", "b"] (spWork K)) (C__law_worked : Cal P w K mg base CX0 2 "_law_worked" ["_law_half", "_law_op", "_law_a", "_law_b"] spLWork) (C__law_integers : Cal P w K mg base CX0 2 "_law_integers" ["_law_actual", "_law_due"] spInts)  : Cal P w K mg base CX0 4 "_law_acts_hold" ["_law_bag", "_law_told", "_law_sizes"] (spActs K) := by
  refine S.cal sc__law_acts_hold bn__law_acts_hold (fun vs H Q E h => ?_) (fun f cdv A outer s H vs Q E hr h => ?_)
  · first | (obtain ⟨rfl, _⟩ := h; rfl) | (obtain ⟨_, rfl, _⟩ := h; rfl) | (obtain ⟨_, _, rfl, _⟩ := h; rfl) | (obtain ⟨_, _, _, rfl, _⟩ := h; rfl) | (obtain ⟨_, _, _, _, rfl, _⟩ := h; rfl) | (obtain ⟨_, _, _, _, _, rfl, _⟩ := h; rfl) | (obtain ⟨_, _, _, _, _, _, rfl, _⟩ := h; rfl)
  · skip
    obtain ⟨f_Version_M_work, fd_Version_M_work, m_Version_M_work, b_Version_M_work, G_Version_M_work⟩ := C_Version_M_work.ex
    refine ⟨_, (pss_cons (ps_set (i := 3) sc__law_acts_hold.nd rfl (Or.inl rfl) (pe_ix Fx.ix_T (pv 2) pe_int (fun _ _ => rfl)))
        (pss_cons (ps_set (i := 4) sc__law_acts_hold.nd rfl (Or.inl rfl) (Fx.pe_cal C__law_a_number (hr.mono (by decide)) pass0 (Fx.pa_c (pv 0) (Fx.pa_c (pv 3) pa_nil))))
        (pss_cons (ps_set (i := 5) sc__law_acts_hold.nd rfl (Or.inl rfl) (Fx.pe_cal C__law_a_number (hr.mono (by decide)) pass0 (Fx.pa_c (pv 0) (Fx.pa_c (pv 3) pa_nil))))
        (pss_cons (ps_set (i := 6) sc__law_acts_hold.nd rfl (Or.inl rfl) (Fx.pe_cal C__law_choice (hr.mono (by decide)) pass0 (Fx.pa_c (pv 0) (Fx.pa_c (pe_lst (Fx.pa_c pe_int (Fx.pa_c pe_int (Fx.pa_c pe_int (Fx.pa_c (pe_op op_add pe_int (Fx.pe_cal C__law_pick (hr.mono (by decide)) pass0 (Fx.pa_c (pv 0) (Fx.pa_c pe_int pa_nil)))) (Fx.pa_c (pe_op op_add pe_int (Fx.pe_cal C__law_pick (hr.mono (by decide)) pass0 (Fx.pa_c (pv 0) (Fx.pa_c pe_int pa_nil)))) pa_nil)))))) pa_nil))))
        (pss_cons (ps_for PassesOwn.never rfl (pi_list (pe_lst (Fx.pa_c (pe_tup (Fx.pa_c (pv 4) (Fx.pa_c (pv 5) pa_nil))) (Fx.pa_c (pe_tup (Fx.pa_c (pv 5) (Fx.pa_c (pv 4) pa_nil))) (Fx.pa_c (pe_tup (Fx.pa_c (pv 4) (Fx.pa_c (pv 4) pa_nil))) (Fx.pa_c (pe_tup (Fx.pa_c (pv 4) (Fx.pa_c pe_int pa_nil))) (Fx.pa_c (pe_tup (Fx.pa_c (pe_un un_neg (pv 3)) (Fx.pa_c (pe_un un_neg pe_int) pa_nil))) (Fx.pa_c (pe_tup (Fx.pa_c (pe_op op_sub (pv 3) pe_int) (Fx.pa_c (pe_op op_sub (pv 3) pe_int) pa_nil))) (Fx.pa_c (pe_tup (Fx.pa_c (pv 4) (Fx.pa_c (pe_un un_neg (pv 3)) pa_nil))) pa_nil))))))))) (pg_tup rfl (pgs_cons (pg_name (i := 7) sc__law_acts_hold.nd rfl (Or.inl rfl)) (pgs_cons (pg_name (i := 8) sc__law_acts_hold.nd rfl (Or.inl rfl)) pgs_nil))) (pss_cons (ps_for PassesOwn.never rfl (pi_list (pe_lst (Fx.pa_c pe_str (Fx.pa_c pe_str (Fx.pa_c pe_str (Fx.pa_c pe_str (Fx.pa_c pe_str pa_nil))))))) (pg_name (i := 9) sc__law_acts_hold.nd rfl (Or.inl rfl)) (pss_one (ps_if (pt_not (pt_val (Fx.pe_cal C__law_integers (hr.mono (by decide)) pass0 (Fx.pa_c (pe_tup (Fx.pa_c (pe_meth (pv 1) T.cl_Version m_Version_M_work G_Version_M_work (hr.mono (by decide)) b_Version_M_work .nil pass0 (Fx.pa_c (pv 9) (Fx.pa_c (pv 7) (Fx.pa_c (pv 8) pa_nil)))) pa_nil)) (Fx.pa_c (pe_tup (Fx.pa_c (Fx.pe_cal C__law_worked (hr.mono (by decide)) pass0 (Fx.pa_c (pv 3) (Fx.pa_c (pv 9) (Fx.pa_c (pv 7) (Fx.pa_c (pv 8) pa_nil))))) pa_nil)) pa_nil))))) (pss_one (ps_ret pe_bl)) pss_nil)))
        (pss_one (ps_if (pt_not (pt_val (Fx.pe_cal C__law_integers (hr.mono (by decide)) pass0 (Fx.pa_c (pe_tup (Fx.pa_c (pe_meth (pv 1) T.cl_Version m_Version_M_work G_Version_M_work (hr.mono (by decide)) b_Version_M_work .nil pass0 (Fx.pa_c pe_str (Fx.pa_c (pv 7) (Fx.pa_c (pv 6) pa_nil)))) pa_nil)) (Fx.pa_c (pe_tup (Fx.pa_c (pe_op op_mod (Fx.pe_cTy Fx.int_I T.b_int (by decide +kernel) (Fx.pa_c (pv 7) pa_nil)) (pv 6)) pa_nil)) pa_nil))))) (pss_one (ps_ret pe_bl)) pss_nil))))
        (pss_one (ps_ret pe_bl))))))), ?_⟩
    obtain ⟨b, x, p, n, rfl, hB, hv, hp, q⟩ := h
    have hl := hf_lo n
    refine seqI fun K1 k1 => ?_
    walk_at "rd"
    refine ⟨_, hp, _, rfl, k1 _ _ ?_⟩
    clear k1
    refine seqI fun K1 k1 => ?_
    walk_at "rd"
    refine ⟨b, n, rfl, hB, fun a H1 a0 a1 kp1 => k1 _ _ ?_⟩
    clear k1
    refine seqI fun K1 k1 => ?_
    walk_at "rd"
    refine ⟨b, n, rfl, kp1.bag, fun c H2 c0 c1 kp2 => k1 _ _ ?_⟩
    clear k1
    replace kp1 := kp1.trans kp2
    clear kp2
    refine seqI fun K1 k1 => ?_
    walk_at "rd"
    refine ⟨b, _, rfl, kp1.bag, by decide, by decide, fun d H3 d0 d1 kp2 => ⟨d, rfl, b, _, rfl, kp2.bag, by decide, by decide, fun e H4 e0 e1 kp3 => ⟨e, rfl, ?_⟩⟩⟩
    replace kp1 := (kp1.trans kp2).trans kp3
    clear kp2 kp3
    refine ⟨by decide, fun q1 m_q1 => ?_⟩
    have t_q1 := same_new (H := H4) (o := .lst [V.int 1, V.int 2, V.int 30000, V.int (1 + d), V.int (1 + e)]) m_q1
    have h_q1 : (upd H4 q1 (.lst [V.int 1, V.int 2, V.int 30000, V.int (1 + d), V.int (1 + e)])) q1 = some (.lst [V.int 1, V.int 2, V.int 30000, V.int (1 + d), V.int (1 + e)]) := upd_same
    have s5 := t_q1
    clear t_q1
    generalize upd H4 q1 (.lst [V.int 1, V.int 2, V.int 30000, V.int (1 + d), V.int (1 + e)]) = H5 at s5 h_q1
    clear m_q1
    replace kp1 := kp1.then s5
    refine ⟨b, q1, [1, 2, 30000, 1 + d, 1 + e], rfl, kp1.bag, h_q1, (show 0 < 5 by decide), (show 5 ≤ 1000 by decide), fun z H6 hz kp2 => k1 _ _ ?_⟩
    clear k1
    replace kp1 := kp1.trans kp2
    have z1 : 1 ≤ z ∧ z ≤ 30000 := by
      simp only [List.mem_cons, List.not_mem_nil, or_false] at hz
      omega
    clear kp2 h_q1 s5 hz d0 d1 e0 e1
    replace hv := hv.kp hB kp1
    clear hp
    refine seqI fun K1 k1 => ?_
    refine forI fun R kR => ?_
    walk_at "rd"
    refine ⟨by decide, fun p1 m_p1 => ⟨by decide, fun p2 m_p2 => ⟨by decide, fun p3 m_p3 => ⟨by decide, fun p4 m_p4 => ⟨by decide, fun p5 m_p5 => ⟨by decide, fun p6 m_p6 => ⟨by decide, fun p7 m_p7 => ⟨by decide, fun p8 m_p8 => ?_⟩⟩⟩⟩⟩⟩⟩⟩
    have t_p1 := same_new (H := H6) (o := .tup [V.int a, V.int c]) m_p1
    have t_p2 := same_new (H := (upd H6 p1 (.tup [V.int a, V.int c]))) (o := .tup [V.int c, V.int a]) m_p2
    have t_p3 := same_new (H := (upd (upd H6 p1 (.tup [V.int a, V.int c])) p2 (.tup [V.int c, V.int a]))) (o := .tup [V.int a, V.int a]) m_p3
    have t_p4 := same_new (H := (upd (upd (upd H6 p1 (.tup [V.int a, V.int c])) p2 (.tup [V.int c, V.int a])) p3 (.tup [V.int a, V.int a]))) (o := .tup [V.int a, V.int 0]) m_p4
    have t_p5 := same_new (H := (upd (upd (upd (upd H6 p1 (.tup [V.int a, V.int c])) p2 (.tup [V.int c, V.int a])) p3 (.tup [V.int a, V.int a])) p4 (.tup [V.int a, V.int 0]))) (o := .tup [V.int (-hf n), V.int (-1)]) m_p5
    have t_p6 := same_new (H := (upd (upd (upd (upd (upd H6 p1 (.tup [V.int a, V.int c])) p2 (.tup [V.int c, V.int a])) p3 (.tup [V.int a, V.int a])) p4 (.tup [V.int a, V.int 0])) p5 (.tup [V.int (-hf n), V.int (-1)]))) (o := .tup [V.int (hf n - 1), V.int (hf n - 1)]) m_p6
    have t_p7 := same_new (H := (upd (upd (upd (upd (upd (upd H6 p1 (.tup [V.int a, V.int c])) p2 (.tup [V.int c, V.int a])) p3 (.tup [V.int a, V.int a])) p4 (.tup [V.int a, V.int 0])) p5 (.tup [V.int (-hf n), V.int (-1)])) p6 (.tup [V.int (hf n - 1), V.int (hf n - 1)]))) (o := .tup [V.int a, V.int (-hf n)]) m_p7
    have t_p8 := same_new (H := (upd (upd (upd (upd (upd (upd (upd H6 p1 (.tup [V.int a, V.int c])) p2 (.tup [V.int c, V.int a])) p3 (.tup [V.int a, V.int a])) p4 (.tup [V.int a, V.int 0])) p5 (.tup [V.int (-hf n), V.int (-1)])) p6 (.tup [V.int (hf n - 1), V.int (hf n - 1)])) p7 (.tup [V.int a, V.int (-hf n)]))) (o := .lst [V.ref p1, V.ref p2, V.ref p3, V.ref p4, V.ref p5, V.ref p6, V.ref p7]) m_p8
    have h_p1 : (upd (upd (upd (upd (upd (upd (upd (upd H6 p1 (.tup [V.int a, V.int c])) p2 (.tup [V.int c, V.int a])) p3 (.tup [V.int a, V.int a])) p4 (.tup [V.int a, V.int 0])) p5 (.tup [V.int (-hf n), V.int (-1)])) p6 (.tup [V.int (hf n - 1), V.int (hf n - 1)])) p7 (.tup [V.int a, V.int (-hf n)])) p8 (.lst [V.ref p1, V.ref p2, V.ref p3, V.ref p4, V.ref p5, V.ref p6, V.ref p7])) p1 = some (.tup [V.int a, V.int c]) := (t_p8 _ _ (t_p7 _ _ (t_p6 _ _ (t_p5 _ _ (t_p4 _ _ (t_p3 _ _ (t_p2 _ _ upd_same)))))))
    have h_p2 : (upd (upd (upd (upd (upd (upd (upd (upd H6 p1 (.tup [V.int a, V.int c])) p2 (.tup [V.int c, V.int a])) p3 (.tup [V.int a, V.int a])) p4 (.tup [V.int a, V.int 0])) p5 (.tup [V.int (-hf n), V.int (-1)])) p6 (.tup [V.int (hf n - 1), V.int (hf n - 1)])) p7 (.tup [V.int a, V.int (-hf n)])) p8 (.lst [V.ref p1, V.ref p2, V.ref p3, V.ref p4, V.ref p5, V.ref p6, V.ref p7])) p2 = some (.tup [V.int c, V.int a]) := (t_p8 _ _ (t_p7 _ _ (t_p6 _ _ (t_p5 _ _ (t_p4 _ _ (t_p3 _ _ upd_same))))))
    have h_p3 : (upd (upd (upd (upd (upd (upd (upd (upd H6 p1 (.tup [V.int a, V.int c])) p2 (.tup [V.int c, V.int a])) p3 (.tup [V.int a, V.int a])) p4 (.tup [V.int a, V.int 0])) p5 (.tup [V.int (-hf n), V.int (-1)])) p6 (.tup [V.int (hf n - 1), V.int (hf n - 1)])) p7 (.tup [V.int a, V.int (-hf n)])) p8 (.lst [V.ref p1, V.ref p2, V.ref p3, V.ref p4, V.ref p5, V.ref p6, V.ref p7])) p3 = some (.tup [V.int a, V.int a]) := (t_p8 _ _ (t_p7 _ _ (t_p6 _ _ (t_p5 _ _ (t_p4 _ _ upd_same)))))
    have h_p4 : (upd (upd (upd (upd (upd (upd (upd (upd H6 p1 (.tup [V.int a, V.int c])) p2 (.tup [V.int c, V.int a])) p3 (.tup [V.int a, V.int a])) p4 (.tup [V.int a, V.int 0])) p5 (.tup [V.int (-hf n), V.int (-1)])) p6 (.tup [V.int (hf n - 1), V.int (hf n - 1)])) p7 (.tup [V.int a, V.int (-hf n)])) p8 (.lst [V.ref p1, V.ref p2, V.ref p3, V.ref p4, V.ref p5, V.ref p6, V.ref p7])) p4 = some (.tup [V.int a, V.int 0]) := (t_p8 _ _ (t_p7 _ _ (t_p6 _ _ (t_p5 _ _ upd_same))))
    have h_p5 : (upd (upd (upd (upd (upd (upd (upd (upd H6 p1 (.tup [V.int a, V.int c])) p2 (.tup [V.int c, V.int a])) p3 (.tup [V.int a, V.int a])) p4 (.tup [V.int a, V.int 0])) p5 (.tup [V.int (-hf n), V.int (-1)])) p6 (.tup [V.int (hf n - 1), V.int (hf n - 1)])) p7 (.tup [V.int a, V.int (-hf n)])) p8 (.lst [V.ref p1, V.ref p2, V.ref p3, V.ref p4, V.ref p5, V.ref p6, V.ref p7])) p5 = some (.tup [V.int (-hf n), V.int (-1)]) := (t_p8 _ _ (t_p7 _ _ (t_p6 _ _ upd_same)))
    have h_p6 : (upd (upd (upd (upd (upd (upd (upd (upd H6 p1 (.tup [V.int a, V.int c])) p2 (.tup [V.int c, V.int a])) p3 (.tup [V.int a, V.int a])) p4 (.tup [V.int a, V.int 0])) p5 (.tup [V.int (-hf n), V.int (-1)])) p6 (.tup [V.int (hf n - 1), V.int (hf n - 1)])) p7 (.tup [V.int a, V.int (-hf n)])) p8 (.lst [V.ref p1, V.ref p2, V.ref p3, V.ref p4, V.ref p5, V.ref p6, V.ref p7])) p6 = some (.tup [V.int (hf n - 1), V.int (hf n - 1)]) := (t_p8 _ _ (t_p7 _ _ upd_same))
    have h_p7 : (upd (upd (upd (upd (upd (upd (upd (upd H6 p1 (.tup [V.int a, V.int c])) p2 (.tup [V.int c, V.int a])) p3 (.tup [V.int a, V.int a])) p4 (.tup [V.int a, V.int 0])) p5 (.tup [V.int (-hf n), V.int (-1)])) p6 (.tup [V.int (hf n - 1), V.int (hf n - 1)])) p7 (.tup [V.int a, V.int (-hf n)])) p8 (.lst [V.ref p1, V.ref p2, V.ref p3, V.ref p4, V.ref p5, V.ref p6, V.ref p7])) p7 = some (.tup [V.int a, V.int (-hf n)]) := (t_p8 _ _ upd_same)
    have h_p8 : (upd (upd (upd (upd (upd (upd (upd (upd H6 p1 (.tup [V.int a, V.int c])) p2 (.tup [V.int c, V.int a])) p3 (.tup [V.int a, V.int a])) p4 (.tup [V.int a, V.int 0])) p5 (.tup [V.int (-hf n), V.int (-1)])) p6 (.tup [V.int (hf n - 1), V.int (hf n - 1)])) p7 (.tup [V.int a, V.int (-hf n)])) p8 (.lst [V.ref p1, V.ref p2, V.ref p3, V.ref p4, V.ref p5, V.ref p6, V.ref p7])) p8 = some (.lst [V.ref p1, V.ref p2, V.ref p3, V.ref p4, V.ref p5, V.ref p6, V.ref p7]) := upd_same
    have s7 := (((((((t_p1.trans t_p2).trans t_p3).trans t_p4).trans t_p5).trans t_p6).trans t_p7).trans t_p8)
    clear t_p1 t_p2 t_p3 t_p4 t_p5 t_p6 t_p7 t_p8
    generalize upd (upd (upd (upd (upd (upd (upd (upd H6 p1 (.tup [V.int a, V.int c])) p2 (.tup [V.int c, V.int a])) p3 (.tup [V.int a, V.int a])) p4 (.tup [V.int a, V.int 0])) p5 (.tup [V.int (-hf n), V.int (-1)])) p6 (.tup [V.int (hf n - 1), V.int (hf n - 1)])) p7 (.tup [V.int a, V.int (-hf n)])) p8 (.lst [V.ref p1, V.ref p2, V.ref p3, V.ref p4, V.ref p5, V.ref p6, V.ref p7]) = H7 at s7 h_p1 h_p2 h_p3 h_p4 h_p5 h_p6 h_p7 h_p8
    clear m_p8 m_p7 m_p6 m_p5 m_p4 m_p3 m_p2 m_p1
    refine ⟨⟨_, .inl (.inl h_p8)⟩, kR _ _ ?_⟩
    clear kR
    have row : ∀ y ∈ [V.ref p1, V.ref p2, V.ref p3, V.ref p4, V.ref p5, V.ref p6, V.ref p7], ∃ (px : Addr) (u v : Int), y = .ref px ∧ H7 px = some (.tup [.int u, .int v]) ∧ Sml u ∧ Sml v := by
      intro y hy
      simp only [List.mem_cons, List.not_mem_nil, or_false] at hy
      rcases hy with rfl | rfl | rfl | rfl | rfl | rfl | rfl
      · exact ⟨_, _, _, rfl, h_p1, by omega, by omega⟩
      · exact ⟨_, _, _, rfl, h_p2, by omega, by omega⟩
      · exact ⟨_, _, _, rfl, h_p3, by omega, by omega⟩
      · exact ⟨_, _, _, rfl, h_p4, by omega, by omega⟩
      · exact ⟨_, _, _, rfl, h_p5, by omega, by omega⟩
      · exact ⟨_, _, _, rfl, h_p6, by omega, by omega⟩
      · exact ⟨_, _, _, rfl, h_p7, by omega, by omega⟩
    replace hv := hv.same s7
    replace kp1 := kp1.then s7
    clear s7 h_p1 h_p2 h_p3 h_p4 h_p5 h_p6 h_p7
    refine for_list (K := K) (a := p8) (xs := [V.ref p1, V.ref p2, V.ref p3, V.ref p4, V.ref p5, V.ref p6, V.ref p7]) (fun i σ H' => ∃ (v7 v8 v9 : Option V), σ = [some (V.ref b), some (V.ref x), some (V.ref p), some (V.int (hf n)), some (V.int a), some (V.int c), some (.int z), v7, v8, v9] ∧ Same H7 H') ⟨none, none, none, rfl, Same.refl _⟩ (fun i σ H' _ ⟨_, _, _, _, e⟩ => .inl (.inl (e _ _ h_p8))) ?_ ?_
    · rintro i y σ H8 hy ⟨v7, v8, v9, rfl, s8⟩
      obtain ⟨px, u, v, rfl, hpx, su, sv⟩ := row y (List.mem_of_getElem? hy)
      clear k1
      walk_at "rd"
      refine ⟨_, .inl (.inl (s8 _ _ hpx)), rfl, _, _, rfl, _, _, rfl, rfl, ?_⟩
      refine nxI (t := tFor _ _ _) fun K2 k2 => ?_
      refine forI fun R kR => ?_
      walk_at "rd"
      refine ⟨by decide, fun q2 m_q2 => ?_⟩
      have t_q2 := same_new (H := H8) (o := .lst [V.str (Str.ofString "add"), V.str (Str.ofString "sub"), V.str (Str.ofString "mul"), V.str (Str.ofString "div"), V.str (Str.ofString "mod")]) m_q2
      have h_q2 : (upd H8 q2 (.lst [V.str (Str.ofString "add"), V.str (Str.ofString "sub"), V.str (Str.ofString "mul"), V.str (Str.ofString "div"), V.str (Str.ofString "mod")])) q2 = some (.lst [V.str (Str.ofString "add"), V.str (Str.ofString "sub"), V.str (Str.ofString "mul"), V.str (Str.ofString "div"), V.str (Str.ofString "mod")]) := upd_same
      have s9 := t_q2
      clear t_q2
      generalize upd H8 q2 (.lst [V.str (Str.ofString "add"), V.str (Str.ofString "sub"), V.str (Str.ofString "mul"), V.str (Str.ofString "div"), V.str (Str.ofString "mod")]) = H9 at s9 h_q2
      clear m_q2
      refine ⟨⟨_, .inl (.inl h_q2)⟩, kR _ _ ?_⟩
      clear kR
      refine for_list (K := K) (a := q2) (xs := [V.str (Str.ofString "add"), V.str (Str.ofString "sub"), V.str (Str.ofString "mul"), V.str (Str.ofString "div"), V.str (Str.ofString "mod")]) (fun i σ H' => ∃ (v9 : Option V), σ = [some (V.ref b), some (V.ref x), some (V.ref p), some (V.int (hf n)), some (V.int a), some (V.int c), some (.int z), some (.int u), some (.int v), v9] ∧ Same H9 H') ⟨_, rfl, Same.refl _⟩ (fun i σ H' _ ⟨_, _, e⟩ => .inl (.inl (e _ _ h_q2))) ?_ ?_
      · rintro i y σ H10 hy ⟨v9, rfl, s10⟩
        obtain ⟨op, rfl⟩ : ∃ op, y = V.str op := by
          have := List.mem_of_getElem? hy
          simp only [List.mem_cons, List.not_mem_nil, or_false] at this
          rcases this with rfl | rfl | rfl | rfl | rfl <;> exact ⟨_, rfl⟩
        clear k2
        walk_at "rd"
        have sB := (s8.trans s9).trans s10
        have hv2 := hv.same sB
        obtain ⟨dx, hx⟩ := hv2.1
        refine ⟨_, _, hx, rfl, x, n, u, v, op, rfl, hv2, su, sv, ?_⟩
        refine ⟨by decide, fun q3 m_q3 => ?_⟩
        have t_q3 := same_new (H := H10) (o := .tup [V.int (workZ n op u v)]) m_q3
        have h_q3 : (upd H10 q3 (.tup [V.int (workZ n op u v)])) q3 = some (.tup [V.int (workZ n op u v)]) := upd_same
        have s11 := t_q3
        clear t_q3
        generalize upd H10 q3 (.tup [V.int (workZ n op u v)]) = H11 at s11 h_q3
        clear m_q3
        refine ⟨n, u, v, op, rfl, su, sv, ?_⟩
        refine ⟨by decide, fun q4 m_q4 => ?_⟩
        have t_q4 := same_new (H := H11) (o := .tup [V.int (workZ n op u v)]) m_q4
        have h_q4 : (upd H11 q4 (.tup [V.int (workZ n op u v)])) q4 = some (.tup [V.int (workZ n op u v)]) := upd_same
        have s12 := t_q4
        clear t_q4
        generalize upd H11 q4 (.tup [V.int (workZ n op u v)]) = H12 at s12 h_q4
        clear m_q4
        refine ⟨q3, q4, [workZ n op u v], rfl, s12 _ _ h_q3, h_q4, (show 1 ≤ 1000 by decide), fun H13 s13 => ⟨true, rfl, ?_⟩⟩
        rw [if_neg (by decide)]
        exact ((s10.trans s11).trans s12).trans s13
      rintro σ H10 ⟨v9, rfl, s10⟩
      refine k2 _ _ ?_
      clear k2
      walk_at "rd"
      have sB := (s8.trans s9).trans s10
      have hv2 := hv.same sB
      obtain ⟨dx, hx⟩ := hv2.1
      have ew : workZ n (Str.ofString "trim") u z = u % z := by
        unfold workZ
        rw [if_neg (by decide), if_neg (by decide), if_neg (by decide), if_neg (by omega), if_neg (by decide), Int.fmod_eq_emod_of_nonneg u (by omega)]
      refine ⟨_, _, hx, rfl, x, n, u, z, _, rfl, hv2, su, by omega, ?_⟩
      rw [ew]
      refine ⟨by decide, fun q3 m_q3 => ?_⟩
      have t_q3 := same_new (H := H10) (o := .tup [V.int (u % z)]) m_q3
      have h_q3 : (upd H10 q3 (.tup [V.int (u % z)])) q3 = some (.tup [V.int (u % z)]) := upd_same
      have s11 := t_q3
      clear t_q3
      generalize upd H10 q3 (.tup [V.int (u % z)]) = H11 at s11 h_q3
      clear m_q3
      refine ⟨by omega, ?_⟩
      refine ⟨by decide, fun q4 m_q4 => ?_⟩
      have t_q4 := same_new (H := H11) (o := .tup [V.int (u % z)]) m_q4
      have h_q4 : (upd H11 q4 (.tup [V.int (u % z)])) q4 = some (.tup [V.int (u % z)]) := upd_same
      have s12 := t_q4
      clear t_q4
      generalize upd H11 q4 (.tup [V.int (u % z)]) = H12 at s12 h_q4
      clear m_q4
      refine ⟨q3, q4, [u % z], rfl, s12 _ _ h_q3, h_q4, (show 1 ≤ 1000 by decide), fun H13 s13 => ⟨true, rfl, ?_⟩⟩
      rw [if_neg (by decide)]
      exact ((sB.trans s11).trans s12).trans s13
    rintro σ H8 ⟨v7, v8, v9, rfl, s8⟩
    refine k1 _ _ ?_
    walk_at "rd"
    exact q _ (kp1.then s8)
end
section
variable {P : Program} {w : World} {K : PySem.W.Frag} {mg : Str → Option Value} {base : Heap}
theorem ok__law_bytes_hold (S : Src K mg "_law_bytes_hold" s__law_bytes_hold) (T : Tx P K mg) (C__law_a_number : Cal P w K mg base CX0 3 "_law_a_number" ["_law_bag", "_law_half"] spANum) (C__law_bytes : Cal P w K mg base CX0 1 "_law_bytes" ["_law_sizes", "_law_number"] spLBytes) (C_Version_M_bytes_of : CalM P w K mg base (L2.CX P w) 3 (He.ga K "Version") "bytes_of" ["self", "number"] (spBytes K)) (C__law_integers : Cal P w K mg base CX0 2 "_law_integers" ["_law_actual", "_law_due"] spInts) (C_Version_M_number_of : CalM P w K mg base CX0 2 (He.ga K "Version") "number_of" ["self", "row"] (spNumOf K)) (C__law_pick : Cal P w K mg base CX0 1 "_law_pick" ["_law_bag", "_law_many"] spPick) (C__law_choice : Cal P w K mg base CX0 2 "_law_choice" ["_law_bag", "_law_things"] spChoice) (C__law_wrapped : Cal P w K mg base CX0 1 "_law_wrapped" ["_law_half", "_law_number"] spLWrap)  : Cal P w K mg base CX0 4 "_law_bytes_hold" ["_law_bag", "_law_told", "_law_sizes"] (spActs K) := by
  refine S.cal sc__law_bytes_hold bn__law_bytes_hold (fun vs H Q E h => ?_) (fun f cdv A outer s H vs Q E hr h => ?_)
  · first | (obtain ⟨rfl, _⟩ := h; rfl) | (obtain ⟨_, rfl, _⟩ := h; rfl) | (obtain ⟨_, _, rfl, _⟩ := h; rfl) | (obtain ⟨_, _, _, rfl, _⟩ := h; rfl) | (obtain ⟨_, _, _, _, rfl, _⟩ := h; rfl) | (obtain ⟨_, _, _, _, _, rfl, _⟩ := h; rfl) | (obtain ⟨_, _, _, _, _, _, rfl, _⟩ := h; rfl)
  · skip
    obtain ⟨f_Version_M_bytes_of, fd_Version_M_bytes_of, m_Version_M_bytes_of, b_Version_M_bytes_of, G_Version_M_bytes_of⟩ := C_Version_M_bytes_of.ex
    obtain ⟨f_Version_M_number_of, fd_Version_M_number_of, m_Version_M_number_of, b_Version_M_number_of, G_Version_M_number_of⟩ := C_Version_M_number_of.ex
    refine ⟨_, (pss_cons (ps_set (i := 3) sc__law_bytes_hold.nd rfl (Or.inl rfl) (pe_ix Fx.ix_T (pv 2) pe_int (fun _ _ => rfl)))
        (pss_cons (ps_for PassesOwn.never rfl (pi_range1 rfl T.b_range (Fx.pa_c pe_int pa_nil)) (pg_name (i := 4) sc__law_bytes_hold.nd rfl (Or.inl rfl)) (pss_cons (ps_set (i := 5) sc__law_bytes_hold.nd rfl (Or.inl rfl) (Fx.pe_cal C__law_a_number (hr.mono (by decide)) pass0 (Fx.pa_c (pv 0) (Fx.pa_c (pv 3) pa_nil))))
        (pss_cons (ps_set (i := 6) sc__law_bytes_hold.nd rfl (Or.inl rfl) (Fx.pe_cal C__law_bytes (hr.mono (by decide)) pass0 (Fx.pa_c (pv 2) (Fx.pa_c (pv 5) pa_nil))))
        (pss_cons (ps_if (PW.pt (pw_or (pt_not (pt_val (Fx.pe_cal C__law_integers (hr.mono (by decide)) pass0 (Fx.pa_c (pe_meth (pv 1) T.cl_Version m_Version_M_bytes_of G_Version_M_bytes_of (hr.mono (by decide)) b_Version_M_bytes_of .nil Fx.passX (Fx.pa_c (pv 5) pa_nil)) (Fx.pa_c (pv 6) pa_nil))))) (pw_or1 (pt_not (pt_val (Fx.pe_cal C__law_integers (hr.mono (by decide)) pass0 (Fx.pa_c (pe_tup (Fx.pa_c (pe_meth (pv 1) T.cl_Version m_Version_M_number_of G_Version_M_number_of (hr.mono (by decide)) b_Version_M_number_of .nil pass0 (Fx.pa_c (pv 6) pa_nil)) pa_nil)) (Fx.pa_c (pe_tup (Fx.pa_c (pv 5) pa_nil)) pa_nil)))))))) (pss_one (ps_ret pe_bl)) pss_nil)
        (pss_cons (ps_setLc (i := 7) (own := [("_law_place", 11)]) rfl sc__law_bytes_hold.nd rfl rfl (sw_true rfl rfl rfl (by decide +kernel)) (pi_range1 rfl T.b_range (Fx.pa_c (pe_ix Fx.ix_T (pv 2) pe_int (fun _ _ => rfl)) pa_nil)) (blkOk_by (N := N__law_bytes_hold) (sc := defScope s__law_bytes_hold) (by decide +kernel)) (fun _ _ _ _ _ => (pg_name (i := 11) sc__law_bytes_hold.nd rfl (Or.inl rfl))) (fun _ _ _ _ _ => pts_nil) (fun _ _ _ _ _ => (Fx.pe_cal C__law_choice (hr.mono (by decide)) pass0 (Fx.pa_c (pv 0) (Fx.pa_c (pe_lst (Fx.pa_c pe_int (Fx.pa_c pe_int (Fx.pa_c pe_int (Fx.pa_c pe_int (Fx.pa_c (Fx.pe_cal C__law_pick (hr.mono (by decide)) pass0 (Fx.pa_c (pv 0) (Fx.pa_c pe_int pa_nil))) pa_nil)))))) pa_nil)))))
        (pss_cons (ps_set (i := 8) sc__law_bytes_hold.nd rfl (Or.inl rfl) pe_int)
        (pss_cons (ps_for PassesOwn.never rfl (pi_list (pv 7)) (pg_name (i := 9) sc__law_bytes_hold.nd rfl (Or.inl rfl)) (pss_one (ps_set (i := 8) sc__law_bytes_hold.nd rfl (Or.inl rfl) (pe_op op_add (pe_op op_mul (pv 8) pe_int) (pv 9)))))
        (pss_cons (ps_set (i := 10) sc__law_bytes_hold.nd rfl (Or.inl rfl) (Fx.pe_cTy Fx.list_L T.b_list (by decide +kernel) (Fx.pa_c (pv 7) pa_nil)))
        (pss_cons (ps_if (PW.pt (pw_or (pt_not (pt_val (Fx.pe_cal C__law_integers (hr.mono (by decide)) pass0 (Fx.pa_c (pe_tup (Fx.pa_c (pe_meth (pv 1) T.cl_Version m_Version_M_number_of G_Version_M_number_of (hr.mono (by decide)) b_Version_M_number_of .nil pass0 (Fx.pa_c (pv 7) pa_nil)) pa_nil)) (Fx.pa_c (pe_tup (Fx.pa_c (Fx.pe_cal C__law_wrapped (hr.mono (by decide)) pass0 (Fx.pa_c (pv 3) (Fx.pa_c (pv 8) pa_nil))) pa_nil)) pa_nil))))) (pw_or1 (pt_cmpR (Fx.ne_LL hr.units) (pv 7) (pv 10) (nomark _))))) (pss_one (ps_ret pe_bl)) pss_nil)
        (pss_one (ps_if (pt_not (pt_val (Fx.pe_cal C__law_integers (hr.mono (by decide)) pass0 (Fx.pa_c (pe_meth (pv 1) T.cl_Version m_Version_M_bytes_of G_Version_M_bytes_of (hr.mono (by decide)) b_Version_M_bytes_of .nil Fx.passX (Fx.pa_c (Fx.pe_cal C__law_wrapped (hr.mono (by decide)) pass0 (Fx.pa_c (pv 3) (Fx.pa_c (pv 8) pa_nil))) pa_nil)) (Fx.pa_c (Fx.pe_cTy Fx.tup_L T.b_tuple (by decide +kernel) (Fx.pa_c (pv 10) pa_nil)) pa_nil))))) (pss_one (ps_ret pe_bl)) pss_nil)))))))))))
        (pss_one (ps_ret pe_bl)))), ?_⟩
    obtain ⟨b, x, p, n, rfl, hB, hv, hp, q⟩ := h
    have hl := hf_lo n
    refine seqI fun K1 k1 => ?_
    walk_at "rd"
    refine ⟨_, hp, _, rfl, k1 _ _ ?_⟩
    clear k1
    refine seqI fun K1 k1 => ?_
    refine forI fun R kR => ?_
    walk_at "rd"
    refine ⟨by decide, by decide, kR _ _ ?_⟩
    clear kR
    refine for_range (lo := 0) (n := (3 : Int).toNat) (fun k σ H' => ∃ (v4 v5 v6 v7 v8 v9 v10 v11 : Option V), σ = [some (V.ref b), some (V.ref x), some (V.ref p), some (.int (hf n)), v4, v5, v6, v7, v8, v9, v10, v11] ∧ Kp b H H') ⟨none, none, none, none, none, none, none, none, rfl, Kp.refl hB⟩ ?_ ?_
    · rintro k σ H1 hk ⟨v4, v5, v6, v7, v8, v9, v10, v11, rfl, kp⟩
      clear k1
      have hv1 := hv.kp hB kp
      have hp1 := kp.tup hB hp
      have B1 := kp.bag
      show tSeq _ _ _ _ _
      refine seqI fun K1 k1 => ?_
      walk_at "rd"
      refine ⟨b, n, rfl, B1, fun i H2 i0 i1 kp2 => k1 _ _ ?_⟩
      clear k1 hk
      replace hv1 := hv1.kp B1 kp2
      replace hp1 := kp2.tup B1 hp1
      replace kp := kp.trans kp2
      have B2 := kp2.bag
      clear B1 kp2
      have n1 := hv.2.1
      have n3 := hv.2.2
      refine seqI fun K1 k1 => ?_
      walk_at "rd"
      refine ⟨p, n, i, rfl, hp1, n1, n3, fun p6 H3 s3 h6 => k1 _ _ ?_⟩
      clear k1
      replace hv1 := hv1.same s3
      replace hp1 := s3 _ _ hp1
      replace kp := kp.then s3
      have B3 := B2.same s3
      clear s3 B2
      have lb : (bytesZ n i).length ≤ 1000 := by
        rw [bytesZ_len n1 n3]
        omega
      refine seqI fun K1 k1 => ?_
      walk_at "rd"
      obtain ⟨dx, hx⟩ := hv1.1
      refine ⟨_, _, hx, rfl, x, n, _, rfl, hv1, .inl ⟨i, rfl, i0, i1, fun p7 H4 s4 h7 => ?_⟩⟩
      refine ⟨p7, p6, bytesZ n i, rfl, h7, s4 _ _ h6, lb, fun H5 s5 => ⟨true, rfl, ?_⟩⟩
      rw [if_neg (by decide)]
      have s6 := s4.trans s5
      replace hv1 := hv1.same s6
      replace hx := s6 _ _ hx
      replace hp1 := s6 _ _ hp1
      replace h6 := s6 _ _ h6
      replace kp := kp.then s6
      have B5 := B3.same s6
      clear s4 s5 s6 h7 B3
      refine ⟨_, _, hx, rfl, x, p6, n, bytesZ n i, rfl, hv1, .inr h6, ?_⟩
      rw [num_bytes n1 n3 i0 i1]
      refine ⟨by decide, fun q1 m_q1 => ⟨by decide, fun q2 m_q2 => ?_⟩⟩
      have t_q1 := same_new (H := H5) (o := .tup [V.int i]) m_q1
      have t_q2 := same_new (H := (upd H5 q1 (.tup [V.int i]))) (o := .tup [V.int i]) m_q2
      have h_q1 : (upd (upd H5 q1 (.tup [V.int i])) q2 (.tup [V.int i])) q1 = some (.tup [V.int i]) := (t_q2 _ _ upd_same)
      have h_q2 : (upd (upd H5 q1 (.tup [V.int i])) q2 (.tup [V.int i])) q2 = some (.tup [V.int i]) := upd_same
      have s6 := (t_q1.trans t_q2)
      clear t_q1 t_q2
      generalize upd (upd H5 q1 (.tup [V.int i])) q2 (.tup [V.int i]) = H6 at s6 h_q1 h_q2
      clear m_q2 m_q1
      refine ⟨q1, q2, [i], rfl, h_q1, h_q2, (show 1 ≤ 1000 by decide), fun H7 s7 => ⟨true, rfl, ?_⟩⟩
      rw [if_neg (by decide)]
      refine k1 _ _ ?_
      clear k1
      have s8 := s6.trans s7
      replace hv1 := hv1.same s8
      replace hp1 := s8 _ _ hp1
      replace kp := kp.then s8
      have B7 := B5.same s8
      clear s6 s7 s8 h6 h_q1 h_q2 B5 hx lb
      refine seqI fun K1 k1 => ?_
      refine ⟨_, rfl, p, 1, _, rfl, rfl, hp1, _, rfl, n + 1, rfl, by omega, by omega, fun D nD => ?_⟩
      refine lc_range (lo := 0) (n := (n + 1).toNat) (fun i H2 => ∃ l : List Int, l.length = i ∧ (∀ o ∈ l, 0 ≤ o ∧ o ≤ 255) ∧ H2 D = some (.lst (mi l)) ∧ Kp b H7 H2) ⟨[], rfl, fun o h => by (cases h), upd_same, Kp.put B7 (Kp.refl B7) nD⟩ ?_ ?_
      · rintro j H8 hj ⟨l, hl1, hl2, hD, kp8⟩
        refine ⟨rfl, ?_⟩
        walk_at "rd"
        refine ⟨b, _, rfl, kp8.bag, by decide, by decide, fun g H9 g0 g1 kp9 => ?_⟩
        refine ⟨by decide, fun q1 m_q1 => ?_⟩
        have t_q1 := same_new (H := H9) (o := .lst [V.int 0, V.int 127, V.int 128, V.int 255, V.int g]) m_q1
        have h_q1 : (upd H9 q1 (.lst [V.int 0, V.int 127, V.int 128, V.int 255, V.int g])) q1 = some (.lst [V.int 0, V.int 127, V.int 128, V.int 255, V.int g]) := upd_same
        have s10 := t_q1
        clear t_q1
        generalize upd H9 q1 (.lst [V.int 0, V.int 127, V.int 128, V.int 255, V.int g]) = H10 at s10 h_q1
        clear m_q1
        have B10 := kp9.bag.same s10
        refine ⟨b, q1, [0, 127, 128, 255, g], rfl, B10, h_q1, (show 0 < 5 by decide), (show 5 ≤ 1000 by decide), fun o H11 ho kp11 => ?_⟩
        have o1 : 0 ≤ o ∧ o ≤ 255 := by
          simp only [List.mem_cons, List.not_mem_nil, or_false] at ho
          omega
        have kpB := (kp9.then s10).trans kp11
        refine ⟨_, kpB.lst kp8.bag hD, ?_, l ++ [o], ?_, ?_, ?_, Kp.put B7 (kp8.trans kpB) nD⟩
        · rw [mi_len]
          exact Nat.lt_of_lt_of_le (by omega : _ < 100) (by decide)
        · rw [List.length_append, hl1]
          rfl
        · intro y hy
          rcases List.mem_append.mp hy with hy | hy
          · exact hl2 y hy
          · rw [List.mem_singleton.mp hy]
            exact o1
        · rw [mi_app]
          rfl
      rintro H8 ⟨l, hl1, hl2, hD, kp8⟩
      refine k1 _ _ ?_
      clear k1
      replace hv1 := hv1.kp B7 kp8
      replace kp := kp.trans kp8
      have B8 := kp8.bag
      clear kp8 B7 hp1
      refine seqI fun K1 k1 => ?_
      walk_at "rd"
      refine k1 _ _ ?_
      clear k1
      refine seqI fun K1 k1 => ?_
      refine ⟨_, rfl, D, rfl, ⟨_, .inl (.inl hD)⟩, ?_⟩
      refine for_list (K := K) (a := D) (xs := mi l) (fun j σ H' => ∃ (v9 : Option V), σ = [some (V.ref b), some (V.ref x), some (V.ref p), some (.int (hf n)), some (.int (0 + (k : Int))), some (.int i), some (.ref p6), some (.ref D), some (.int (sumB (l.take j))), v9, v10, v11] ∧ H' = H8) ⟨_, rfl, rfl⟩ (fun i σ H' _ ⟨_, _, e⟩ => by rw [e]; exact .inl (.inl hD)) ?_ ?_
      · rintro j y σ H9 hy ⟨v9, rfl, rfl⟩
        obtain ⟨o, rfl, ho⟩ := mapI_some hy
        clear k1
        walk_at "rd"
        refine ⟨.inr (by decide), ?_⟩
        rw [sumB_step ho]
      rintro σ H9 ⟨v9, rfl, rfl⟩
      refine k1 _ _ ?_
      clear k1
      rw [List.take_of_length_le (by rw [mi_len]; exact Nat.le_refl _)]
      refine seqI fun K1 k1 => ?_
      walk_at "rd"
      refine ⟨_, hD, fun q1 nq => k1 _ _ ?_⟩
      clear k1
      have s10 := same_new (o := .lst (mi l)) nq
      have hq := upd_same (H := H9) (a := q1) (o := .lst (mi l))
      generalize upd H9 q1 (.lst (mi l)) = H10 at s10 hq
      replace hv1 := hv1.same s10
      replace hD := s10 _ _ hD
      replace kp := kp.then s10
      clear s10 nq nD B8
      obtain ⟨dx, hx⟩ := hv1.1
      refine seqI fun K1 k1 => ?_
      walk_at "rd"
      refine ⟨_, _, hx, rfl, x, D, n, l, rfl, hv1, .inl hD, ?_⟩
      refine ⟨by decide, fun q2 m_q2 => ?_⟩
      have t_q2 := same_new (H := H10) (o := .tup [V.int (wrapZ n (sumB l))]) m_q2
      have h_q2 : (upd H10 q2 (.tup [V.int (wrapZ n (sumB l))])) q2 = some (.tup [V.int (wrapZ n (sumB l))]) := upd_same
      have s11 := t_q2
      clear t_q2
      generalize upd H10 q2 (.tup [V.int (wrapZ n (sumB l))]) = H11 at s11 h_q2
      clear m_q2
      refine ⟨n, sumB l, rfl, ?_⟩
      refine ⟨by decide, fun q3 m_q3 => ?_⟩
      have t_q3 := same_new (H := H11) (o := .tup [V.int (wrapZ n (sumB l))]) m_q3
      have h_q3 : (upd H11 q3 (.tup [V.int (wrapZ n (sumB l))])) q3 = some (.tup [V.int (wrapZ n (sumB l))]) := upd_same
      have s12 := t_q3
      clear t_q3
      generalize upd H11 q3 (.tup [V.int (wrapZ n (sumB l))]) = H12 at s12 h_q3
      clear m_q3
      refine ⟨q2, q3, [wrapZ n (sumB l)], rfl, s12 _ _ h_q2, h_q3, (show 1 ≤ 1000 by decide), fun H13 s13 => ⟨true, rfl, ?_⟩⟩
      rw [if_neg (by decide)]
      have s14 := (s11.trans s12).trans s13
      replace hv1 := hv1.same s14
      replace hx := s14 _ _ hx
      replace hD := s14 _ _ hD
      replace hq := s14 _ _ hq
      replace kp := kp.then s14
      clear s11 s12 s13 s14 h_q2 h_q3
      refine ⟨_, hD, _, hq, mi_isF l, mi_isF l, ?_⟩
      rw [if_pos rfl]
      refine k1 _ _ ?_
      clear k1
      walk_at "rd"
      have wb := wrap_in n (sumB l)
      refine ⟨_, _, hx, rfl, n, sumB l, rfl, x, n, _, rfl, hv1, .inl ⟨_, rfl, wb.1, wb.2, fun p7 H14 s14 h7 => ?_⟩⟩
      rw [bytes_num n1 n3 hl1 hl2] at h7
      refine ⟨_, s14 _ _ hq, fun q4 n4 => ?_⟩
      have s15 := same_new (o := .tup (mi l)) n4
      refine ⟨p7, q4, l, rfl, s15 _ _ h7, upd_same, by omega, fun H16 s16 => ⟨true, rfl, ?_⟩⟩
      rw [if_neg (by decide)]
      exact kp.then ((s14.trans s15).trans s16)
    rintro σ H1 ⟨v4, v5, v6, v7, v8, v9, v10, v11, rfl, kp⟩
    refine k1 _ _ ?_
    walk_at "rd"
    exact q _ kp
end
section
variable {P : Program} {w : World} {K : PySem.W.Frag} {mg : Str → Option Value} {base : Heap}
theorem ok__law_bounds_hold (S : Src K mg "_law_bounds_hold" s__law_bounds_hold) (T : Tx P K mg) (C__law_pick : Cal P w K mg base CX0 1 "_law_pick" ["_law_bag", "_law_many"] spPick) (C__law_choice : Cal P w K mg base CX0 2 "_law_choice" ["_law_bag", "_law_things"] spChoice) (C_Version_M_greatest : CalM P w K mg base CX0 1 (He.ga K "Version") "greatest" ["self", "bound"] (spGreat K)) (C__law_integers : Cal P w K mg base CX0 2 "_law_integers" ["_law_actual", "_law_due"] spInts) (C__law_a_number : Cal P w K mg base CX0 3 "_law_a_number" ["_law_bag", "_law_half"] spANum) (C_within : Cal P w K mg base CX0 1 "within" ["bound", "number"] spWithin) (C__law_truth : Cal P w K mg base CX0 1 "_law_truth" ["_law_actual", "_law_due"] spTruth) (C__law_large : Cal P w K mg base CX0 2 "_law_large" ["_law_bag", "_law_half"] spLarge) (C_Version_M_wrap : CalM P w K mg base CX0 1 (He.ga K "Version") "wrap" ["self", "integer"] (spWrap K)) (C__law_wrapped : Cal P w K mg base CX0 1 "_law_wrapped" ["_law_half", "_law_number"] spLWrap) (C_Version_M_is_number : CalM P w K mg base CX0 2 (He.ga K "Version") "is_number" ["self", "thing"] (spIsNum K))  : Cal P w K mg base CX0 4 "_law_bounds_hold" ["_law_bag", "_law_told", "_law_sizes"] (spActs K) := by
  refine S.cal sc__law_bounds_hold bn__law_bounds_hold (fun vs H Q E h => ?_) (fun f cdv A outer s H vs Q E hr h => ?_)
  · first | (obtain ⟨rfl, _⟩ := h; rfl) | (obtain ⟨_, rfl, _⟩ := h; rfl) | (obtain ⟨_, _, rfl, _⟩ := h; rfl) | (obtain ⟨_, _, _, rfl, _⟩ := h; rfl) | (obtain ⟨_, _, _, _, rfl, _⟩ := h; rfl) | (obtain ⟨_, _, _, _, _, rfl, _⟩ := h; rfl) | (obtain ⟨_, _, _, _, _, _, rfl, _⟩ := h; rfl)
  · skip
    obtain ⟨f_Version_M_greatest, fd_Version_M_greatest, m_Version_M_greatest, b_Version_M_greatest, G_Version_M_greatest⟩ := C_Version_M_greatest.ex
    obtain ⟨f_Version_M_wrap, fd_Version_M_wrap, m_Version_M_wrap, b_Version_M_wrap, G_Version_M_wrap⟩ := C_Version_M_wrap.ex
    obtain ⟨f_Version_M_is_number, fd_Version_M_is_number, m_Version_M_is_number, b_Version_M_is_number, G_Version_M_is_number⟩ := C_Version_M_is_number.ex
    refine ⟨_, (pss_cons (ps_set (i := 3) sc__law_bounds_hold.nd rfl (Or.inl rfl) (pe_ix Fx.ix_T (pv 2) pe_int (fun _ _ => rfl)))
        (pss_cons (ps_for PassesOwn.never rfl (pi_range1 rfl T.b_range (Fx.pa_c pe_int pa_nil)) (pg_name (i := 4) sc__law_bounds_hold.nd rfl (Or.inl rfl)) (pss_cons (ps_set (i := 5) sc__law_bounds_hold.nd rfl (Or.inl rfl) (Fx.pe_cal C__law_choice (hr.mono (by decide)) pass0 (Fx.pa_c (pv 0) (Fx.pa_c (pe_lst (Fx.pa_c pe_int (Fx.pa_c pe_int (Fx.pa_c pe_int (Fx.pa_c pe_int (Fx.pa_c (Fx.pe_cal C__law_pick (hr.mono (by decide)) pass0 (Fx.pa_c (pv 0) (Fx.pa_c pe_int pa_nil))) (Fx.pa_c (Fx.pe_cal C__law_pick (hr.mono (by decide)) pass0 (Fx.pa_c (pv 0) (Fx.pa_c pe_int pa_nil))) pa_nil))))))) pa_nil))))
        (pss_cons (ps_if (pt_not (pt_val (Fx.pe_cal C__law_integers (hr.mono (by decide)) pass0 (Fx.pa_c (pe_tup (Fx.pa_c (pe_meth (pv 1) T.cl_Version m_Version_M_greatest G_Version_M_greatest (hr.mono (by decide)) b_Version_M_greatest .nil pass0 (Fx.pa_c (pv 5) pa_nil)) pa_nil)) (Fx.pa_c (pe_tup (Fx.pa_c (pe_op op_sub (pe_ix Fx.ix_L (pe_lst (Fx.pa_c (pv 3) (Fx.pa_c (pv 5) pa_nil))) (Fx.pe_cTy Fx.int_B T.b_int (by decide +kernel) (Fx.pa_c (pe_cmpR op_gt (pv 5) pe_int (nomark _)) pa_nil)) (fun _ _ => rfl)) pe_int) pa_nil)) pa_nil))))) (pss_one (ps_ret pe_bl)) pss_nil)
        (pss_cons (ps_for PassesOwn.never rfl (pi_list (pe_lst (Fx.pa_c (pv 5) (Fx.pa_c (pe_op op_sub (pv 5) pe_int) (Fx.pa_c (pe_op op_add (pv 5) pe_int) (Fx.pa_c pe_int (Fx.pa_c (pe_un un_neg pe_int) (Fx.pa_c (Fx.pe_cal C__law_a_number (hr.mono (by decide)) pass0 (Fx.pa_c (pv 0) (Fx.pa_c (pv 3) pa_nil))) (Fx.pa_c (pe_un un_neg (pv 3)) (Fx.pa_c (pe_op op_sub (pv 3) pe_int) pa_nil)))))))))) (pg_name (i := 6) sc__law_bounds_hold.nd rfl (Or.inl rfl)) (pss_one (ps_if (pt_not (pt_val (Fx.pe_cal C__law_truth (hr.mono (by decide)) pass0 (Fx.pa_c (Fx.pe_cal C_within (hr.mono (by decide)) pass0 (Fx.pa_c (pv 5) (Fx.pa_c (pv 6) pa_nil))) (Fx.pa_c (pe_or (pe_cmpR op_eq (pv 5) pe_int (nomark _)) (pe_one (pe_and (pe_cmpR op_le pe_int (pv 6) (nomark _)) (pe_one (pe_cmpR op_lt (pv 6) (pv 5) (nomark _)))))) pa_nil))))) (pss_one (ps_ret pe_bl)) pss_nil)))
        (pss_cons (ps_set (i := 6) sc__law_bounds_hold.nd rfl (Or.inl rfl) (Fx.pe_cal C__law_large (hr.mono (by decide)) pass0 (Fx.pa_c (pv 0) (Fx.pa_c (pv 3) pa_nil))))
        (pss_cons (ps_set (i := 7) sc__law_bounds_hold.nd rfl (Or.inl rfl) (pe_meth (pv 1) T.cl_Version m_Version_M_wrap G_Version_M_wrap (hr.mono (by decide)) b_Version_M_wrap .nil pass0 (Fx.pa_c (pv 6) pa_nil)))
        (pss_cons (ps_if (PW.pt (pw_or (pt_not (pt_val (Fx.pe_cal C__law_integers (hr.mono (by decide)) pass0 (Fx.pa_c (pe_tup (Fx.pa_c (pv 7) pa_nil)) (Fx.pa_c (pe_tup (Fx.pa_c (Fx.pe_cal C__law_wrapped (hr.mono (by decide)) pass0 (Fx.pa_c (pv 3) (Fx.pa_c (pv 6) pa_nil))) pa_nil)) pa_nil))))) (pw_or1 (pt_cmpR op_ne (pe_op op_mod (Fx.pe_cTy Fx.int_I T.b_int (by decide +kernel) (Fx.pa_c (pe_op op_sub (pv 7) (pv 6)) pa_nil)) (pe_op op_add (pv 3) (pv 3))) pe_int (nomark _))))) (pss_one (ps_ret pe_bl)) pss_nil)
        (pss_one (ps_for PassesOwn.never rfl (pi_list (pe_lst (Fx.pa_c (pv 6) (Fx.pa_c (pv 3) (Fx.pa_c (pe_op op_sub (pv 3) pe_int) (Fx.pa_c (pe_un un_neg (pv 3)) (Fx.pa_c (pe_op op_sub (pe_un un_neg (pv 3)) pe_int) (Fx.pa_c (Fx.pe_cal C__law_a_number (hr.mono (by decide)) pass0 (Fx.pa_c (pv 0) (Fx.pa_c (pv 3) pa_nil))) pa_nil)))))))) (pg_name (i := 8) sc__law_bounds_hold.nd rfl (Or.inl rfl)) (pss_one (ps_if (pt_not (pt_val (Fx.pe_cal C__law_truth (hr.mono (by decide)) pass0 (Fx.pa_c (pe_meth (pv 1) T.cl_Version m_Version_M_is_number G_Version_M_is_number (hr.mono (by decide)) b_Version_M_is_number .nil pass0 (Fx.pa_c (pv 8) pa_nil)) (Fx.pa_c (pe_and (pe_cmpR op_le (pe_un un_neg (pv 3)) (pv 8) (nomark _)) (pe_one (pe_cmpR op_lt (pv 8) (pv 3) (nomark _)))) pa_nil))))) (pss_one (ps_ret pe_bl)) pss_nil)))))))))))
        (pss_cons (ps_for PassesOwn.never rfl (pi_list (pe_lst (Fx.pa_c pe_bl (Fx.pa_c pe_bl (Fx.pa_c pe_non (Fx.pa_c pe_str (Fx.pa_c (pe_tup (Fx.pa_c pe_int pa_nil)) pa_nil))))))) (pg_name (i := 8) sc__law_bounds_hold.nd rfl (Or.inl rfl)) (pss_one (ps_if (pt_not (pt_val (Fx.pe_cal C__law_truth (hr.mono (by decide)) pass0 (Fx.pa_c (pe_meth (pv 1) T.cl_Version m_Version_M_is_number G_Version_M_is_number (hr.mono (by decide)) b_Version_M_is_number .nil pass0 (Fx.pa_c (pv 8) pa_nil)) (Fx.pa_c pe_bl pa_nil))))) (pss_one (ps_ret pe_bl)) pss_nil)))
        (pss_one (ps_ret pe_bl))))), ?_⟩
    obtain ⟨b, x, p, n, rfl, hB, hv, hp, q⟩ := h
    have hl := hf_lo n
    refine seqI fun K1 k1 => ?_
    walk_at "rd"
    refine ⟨_, hp, _, rfl, k1 _ _ ?_⟩
    clear k1
    refine seqI fun K1 k1 => ?_
    refine forI fun R kR => ?_
    walk_at "rd"
    refine ⟨by decide, by decide, kR _ _ ?_⟩
    clear kR
    refine for_range (lo := 0) (n := (3 : Int).toNat) (fun k σ H' => ∃ (v4 v5 v6 v7 v8 : Option V), σ = [some (V.ref b), some (V.ref x), some (V.ref p), some (.int (hf n)), v4, v5, v6, v7, v8] ∧ Kp b H H') ⟨none, none, none, none, none, rfl, Kp.refl hB⟩ ?_ ?_
    · rintro k σ H1 hk ⟨v4, v5, v6, v7, v8, rfl, kp⟩
      clear k1
      have hv1 := hv.kp hB kp
      show tSeq _ _ _ _ _
      refine seqI fun K1 k1 => ?_
      walk_at "rd"
      refine ⟨b, _, rfl, kp.bag, by decide, by decide, fun d H2 d0 d1 kp2 => ⟨b, _, rfl, kp2.bag, by decide, by decide, fun e H3 e0 e1 kp3 => ?_⟩⟩
      refine ⟨by decide, fun q1 m_q1 => ?_⟩
      have t_q1 := same_new (H := H3) (o := .lst [V.int 0, V.int 1, V.int 2, V.int 30000, V.int d, V.int e]) m_q1
      have h_q1 : (upd H3 q1 (.lst [V.int 0, V.int 1, V.int 2, V.int 30000, V.int d, V.int e])) q1 = some (.lst [V.int 0, V.int 1, V.int 2, V.int 30000, V.int d, V.int e]) := upd_same
      have s4 := t_q1
      clear t_q1
      generalize upd H3 q1 (.lst [V.int 0, V.int 1, V.int 2, V.int 30000, V.int d, V.int e]) = H4 at s4 h_q1
      clear m_q1
      have kp4 := (kp2.trans kp3).then s4
      refine ⟨b, q1, [0, 1, 2, 30000, d, e], rfl, kp4.bag, h_q1, (show 0 < 6 by decide), (show 6 ≤ 1000 by decide), fun bd H5 hz kp5 => k1 _ _ ?_⟩
      clear k1
      have bd0 : 0 ≤ bd := by
        simp only [List.mem_cons, List.not_mem_nil, or_false] at hz
        omega
      replace kp4 := kp4.trans kp5
      replace hv1 := hv1.kp kp.bag kp4
      replace kp := kp.trans kp4
      clear kp2 kp3 kp4 kp5 s4 h_q1 hz d0 d1 e0 e1
      refine seqI fun K1 k1 => ?_
      walk_at "rd"
      obtain ⟨dx, hx⟩ := hv1.1
      refine ⟨_, _, hx, rfl, x, n, bd, rfl, hv1, ?_⟩
      refine ⟨by decide, fun q1 m_q1 => ⟨by decide, fun q2 m_q2 => ?_⟩⟩
      have t_q1 := same_new (H := H5) (o := .tup [V.int (if bd = 0 then hf n - 1 else bd - 1)]) m_q1
      have t_q2 := same_new (H := (upd H5 q1 (.tup [V.int (if bd = 0 then hf n - 1 else bd - 1)]))) (o := .lst [V.int (hf n), V.int bd]) m_q2
      have h_q1 : (upd (upd H5 q1 (.tup [V.int (if bd = 0 then hf n - 1 else bd - 1)])) q2 (.lst [V.int (hf n), V.int bd])) q1 = some (.tup [V.int (if bd = 0 then hf n - 1 else bd - 1)]) := (t_q2 _ _ upd_same)
      have h_q2 : (upd (upd H5 q1 (.tup [V.int (if bd = 0 then hf n - 1 else bd - 1)])) q2 (.lst [V.int (hf n), V.int bd])) q2 = some (.lst [V.int (hf n), V.int bd]) := upd_same
      have s6 := (t_q1.trans t_q2)
      clear t_q1 t_q2
      generalize upd (upd H5 q1 (.tup [V.int (if bd = 0 then hf n - 1 else bd - 1)])) q2 (.lst [V.int (hf n), V.int bd]) = H6 at s6 h_q1 h_q2
      clear m_q2 m_q1
      obtain ⟨y, ey, ez⟩ : ∃ y, atI [V.int (hf n), V.int bd] (if decide (0 < bd) = true then 1 else 0) = some (.int y) ∧ y - 1 = (if bd = 0 then hf n - 1 else bd - 1) := by
        by_cases h0 : bd = 0
        · subst h0
          exact ⟨hf n, rfl, by rw [if_pos rfl]⟩
        · refine ⟨bd, ?_, by rw [if_neg h0]⟩
          rw [if_pos (decide_eq_true (by omega))]
          rfl
      refine ⟨_, ey, y, rfl, ?_⟩
      rw [ez]
      refine ⟨by decide, fun q3 m_q3 => ?_⟩
      have t_q3 := same_new (H := H6) (o := .tup [V.int (if bd = 0 then hf n - 1 else bd - 1)]) m_q3
      have h_q3 : (upd H6 q3 (.tup [V.int (if bd = 0 then hf n - 1 else bd - 1)])) q3 = some (.tup [V.int (if bd = 0 then hf n - 1 else bd - 1)]) := upd_same
      have s7 := t_q3
      clear t_q3
      generalize upd H6 q3 (.tup [V.int (if bd = 0 then hf n - 1 else bd - 1)]) = H7 at s7 h_q3
      clear m_q3
      refine ⟨q1, q3, [if bd = 0 then hf n - 1 else bd - 1], rfl, s7 _ _ h_q1, h_q3, (show 1 ≤ 1000 by decide), fun H8 s8 => ⟨true, rfl, ?_⟩⟩
      rw [if_neg (by decide)]
      refine k1 _ _ ?_
      clear k1 ey ez y
      have s9 := (s6.trans s7).trans s8
      replace hv1 := hv1.same s9
      replace kp := kp.then s9
      clear s6 s7 s8 s9 h_q1 h_q2 h_q3 hx
      refine seqI fun K1 k1 => ?_
      refine forI fun R kR => ?_
      walk_at "rd"
      refine ⟨b, n, rfl, kp.bag, fun w H9 w0 w1 kp9 => ?_⟩
      refine ⟨by decide, fun q1 m_q1 => ?_⟩
      have t_q1 := same_new (H := H9) (o := .lst [V.int bd, V.int (bd - 1), V.int (bd + 1), V.int 0, V.int (-1), V.int w, V.int (-hf n), V.int (hf n - 1)]) m_q1
      have h_q1 : (upd H9 q1 (.lst [V.int bd, V.int (bd - 1), V.int (bd + 1), V.int 0, V.int (-1), V.int w, V.int (-hf n), V.int (hf n - 1)])) q1 = some (.lst [V.int bd, V.int (bd - 1), V.int (bd + 1), V.int 0, V.int (-1), V.int w, V.int (-hf n), V.int (hf n - 1)]) := upd_same
      have s10 := t_q1
      clear t_q1
      generalize upd H9 q1 (.lst [V.int bd, V.int (bd - 1), V.int (bd + 1), V.int 0, V.int (-1), V.int w, V.int (-hf n), V.int (hf n - 1)]) = H10 at s10 h_q1
      clear m_q1
      refine ⟨⟨_, .inl (.inl h_q1)⟩, kR _ _ ?_⟩
      clear kR
      have kp10 := kp9.then s10
      replace hv1 := hv1.kp kp.bag kp10
      replace kp := kp.trans kp10
      clear s10 kp9 kp10 w0 w1
      refine for_list (K := K) (a := q1) (xs := mi [bd, bd - 1, bd + 1, 0, -1, w, -hf n, hf n - 1]) (fun j σ H' => ∃ (v6 : Option V), σ = [some (V.ref b), some (V.ref x), some (V.ref p), some (.int (hf n)), some (.int (0 + (k : Int))), some (.int bd), v6, v7, v8] ∧ H' = H10) ⟨_, rfl, rfl⟩ (fun i σ H' _ ⟨_, _, e⟩ => by rw [e]; exact .inl (.inl h_q1)) ?_ ?_
      · rintro j y σ H11 hy ⟨v6', rfl, rfl⟩
        obtain ⟨i, rfl, hi⟩ := mapI_some hy
        clear k1 hi hy
        walk_at "rd"
        refine ⟨bd, i, rfl, ?_⟩
        have fin : ∀ c : Bool, c = inB bd i → spTruth [.bl (inB bd i), .bl c] H11 (fun x_1 H1 => ∃ c, x_1 = V.bl c ∧ if (!c) = true then Q (V.bl false) H1 else H1 = H11) E0 := by
          rintro c rfl
          refine ⟨_, _, rfl, true, by rw [decide_eq_true rfl], ?_⟩
          rw [if_neg (by decide)]
        refine ite_i (fun h0 => fin true ?_) (fun h0 => ite_i (fun h1 => fin _ ?_) (fun h1 => fin false ?_))
        · unfold inB
          rw [decide_eq_true h0]
          rfl
        · unfold inB
          rw [decide_eq_false h0, decide_eq_true h1]
          rfl
        · unfold inB
          rw [decide_eq_false h0, decide_eq_false h1]
          rfl
      rintro σ H11 ⟨v6', rfl, rfl⟩
      refine k1 _ _ ?_
      clear k1 h_q1
      refine seqI fun K1 k1 => ?_
      walk_at "rd"
      refine ⟨b, n, rfl, kp.bag, fun i H12 kp12 => k1 _ _ ?_⟩
      clear k1
      replace hv1 := hv1.kp kp.bag kp12
      replace kp := kp.trans kp12
      clear kp12
      obtain ⟨dx, hx⟩ := hv1.1
      refine seqI fun K1 k1 => ?_
      walk_at "rd"
      refine ⟨_, _, hx, rfl, x, n, i, rfl, hv1, k1 _ _ ?_⟩
      clear k1
      refine seqI fun K1 k1 => ?_
      walk_at "rd"
      refine ⟨by decide, fun q1 m_q1 => ?_⟩
      have t_q1 := same_new (H := H12) (o := .tup [V.int (wrapZ n i)]) m_q1
      have h_q1 : (upd H12 q1 (.tup [V.int (wrapZ n i)])) q1 = some (.tup [V.int (wrapZ n i)]) := upd_same
      have s13 := t_q1
      clear t_q1
      generalize upd H12 q1 (.tup [V.int (wrapZ n i)]) = H13 at s13 h_q1
      clear m_q1
      refine ⟨n, i, rfl, ?_⟩
      refine ⟨by decide, fun q2 m_q2 => ?_⟩
      have t_q2 := same_new (H := H13) (o := .tup [V.int (wrapZ n i)]) m_q2
      have h_q2 : (upd H13 q2 (.tup [V.int (wrapZ n i)])) q2 = some (.tup [V.int (wrapZ n i)]) := upd_same
      have s14 := t_q2
      clear t_q2
      generalize upd H13 q2 (.tup [V.int (wrapZ n i)]) = H14 at s14 h_q2
      clear m_q2
      refine ⟨q1, q2, [wrapZ n i], rfl, s14 _ _ h_q1, h_q2, (show 1 ≤ 1000 by decide), fun H15 s15 => ⟨true, rfl, ?_⟩⟩
      rw [if_neg (by decide)]
      have s16 := (s13.trans s14).trans s15
      replace hv1 := hv1.same s16
      replace kp := kp.then s16
      clear s13 s14 s15 s16 h_q1 h_q2 hx
      have ew : (wrapZ n i - i) % (hf n + hf n) = 0 := by
        unfold wrapZ
        rcases hf_cases' n with e | e | e <;> rw [e] <;> omega
      rw [ew]
      refine ⟨by omega, ite_i (fun _ => k1 _ _ ?_) (fun h => absurd rfl h)⟩
      clear k1 ew
      refine forI fun R kR => ?_
      walk_at "rd"
      refine ⟨b, n, rfl, kp.bag, fun w H9 w0 w1 kp9 => ?_⟩
      refine ⟨by decide, fun q1 m_q1 => ?_⟩
      have t_q1 := same_new (H := H9) (o := .lst [V.int i, V.int (hf n), V.int (hf n - 1), V.int (-hf n), V.int (-hf n - 1), V.int w]) m_q1
      have h_q1 : (upd H9 q1 (.lst [V.int i, V.int (hf n), V.int (hf n - 1), V.int (-hf n), V.int (-hf n - 1), V.int w])) q1 = some (.lst [V.int i, V.int (hf n), V.int (hf n - 1), V.int (-hf n), V.int (-hf n - 1), V.int w]) := upd_same
      have s10 := t_q1
      clear t_q1
      generalize upd H9 q1 (.lst [V.int i, V.int (hf n), V.int (hf n - 1), V.int (-hf n), V.int (-hf n - 1), V.int w]) = H10 at s10 h_q1
      clear m_q1
      refine ⟨⟨_, .inl (.inl h_q1)⟩, kR _ _ ?_⟩
      clear kR
      have kp10 := kp9.then s10
      replace hv1 := hv1.kp kp.bag kp10
      replace kp := kp.trans kp10
      clear s10 kp9 kp10 w0 w1
      refine for_list (K := K) (a := q1) (xs := mi [i, hf n, hf n - 1, -hf n, -hf n - 1, w]) (fun j σ H' => ∃ (v8 : Option V), σ = [some (V.ref b), some (V.ref x), some (V.ref p), some (.int (hf n)), some (.int (0 + (k : Int))), some (.int bd), some (.int i), some (.int (wrapZ n i)), v8] ∧ H' = H10) ⟨_, rfl, rfl⟩ (fun i σ H' _ ⟨_, _, e⟩ => by rw [e]; exact .inl (.inl h_q1)) ?_ ?_
      · rintro j y σ H11 hy ⟨v6', rfl, rfl⟩
        obtain ⟨o, rfl, hi⟩ := mapI_some hy
        clear hi hy
        obtain ⟨dx, hx⟩ := hv1.1
        walk_at "rd"
        refine ⟨_, _, hx, rfl, x, n, _, rfl, hv1, .inl ⟨o, rfl, ?_⟩⟩
        have fin : ∀ c : Bool, c = decide (-hf n ≤ o ∧ o ≤ hf n - 1) → spTruth [.bl (decide (-hf n ≤ o ∧ o ≤ hf n - 1)), .bl c] H11 (fun x_1 H1 => ∃ c, x_1 = V.bl c ∧ if (!c) = true then Q (V.bl false) H1 else H1 = H11) E0 := by
          rintro c rfl
          refine ⟨_, _, rfl, true, by rw [decide_eq_true rfl], ?_⟩
          rw [if_neg (by decide)]
        refine ite_i (fun h1 => fin _ ?_) (fun h1 => fin false ?_)
        · exact decide_eq_decide.mpr (by omega)
        · exact (decide_eq_false (by omega)).symm
      rintro σ H11 ⟨v6', rfl, rfl⟩
      exact ⟨_, _, _, _, _, rfl, kp⟩
    rintro σ H1 ⟨v4, v5, v6, v7, v8, rfl, kp⟩
    refine k1 _ _ ?_
    clear k1
    have hv1 := hv.kp hB kp
    refine seqI fun K1 k1 => ?_
    refine forI fun R kR => ?_
    walk_at "rd"
    refine ⟨by decide, fun q1 m_q1 => ⟨by decide, fun q2 m_q2 => ?_⟩⟩
    have t_q1 := same_new (H := H1) (o := .tup [V.int 1]) m_q1
    have t_q2 := same_new (H := (upd H1 q1 (.tup [V.int 1]))) (o := .lst [V.bl true, V.bl false, V.non, V.str (Str.ofString "1"), V.ref q1]) m_q2
    have h_q1 : (upd (upd H1 q1 (.tup [V.int 1])) q2 (.lst [V.bl true, V.bl false, V.non, V.str (Str.ofString "1"), V.ref q1])) q1 = some (.tup [V.int 1]) := (t_q2 _ _ upd_same)
    have h_q2 : (upd (upd H1 q1 (.tup [V.int 1])) q2 (.lst [V.bl true, V.bl false, V.non, V.str (Str.ofString "1"), V.ref q1])) q2 = some (.lst [V.bl true, V.bl false, V.non, V.str (Str.ofString "1"), V.ref q1]) := upd_same
    have s2 := (t_q1.trans t_q2)
    clear t_q1 t_q2
    generalize upd (upd H1 q1 (.tup [V.int 1])) q2 (.lst [V.bl true, V.bl false, V.non, V.str (Str.ofString "1"), V.ref q1]) = H2 at s2 h_q1 h_q2
    clear m_q2 m_q1
    refine ⟨⟨_, .inl (.inl h_q2)⟩, kR _ _ ?_⟩
    clear kR
    replace hv1 := hv1.same s2
    replace kp := kp.then s2
    clear s2
    refine for_list (K := K) (a := q2) (xs := [V.bl true, V.bl false, V.non, V.str (Str.ofString "1"), V.ref q1]) (fun j σ H' => ∃ (v8 : Option V), σ = [some (V.ref b), some (V.ref x), some (V.ref p), some (.int (hf n)), v4, v5, v6, v7, v8] ∧ H' = H2) ⟨_, rfl, rfl⟩ (fun i σ H' _ ⟨_, _, e⟩ => by rw [e]; exact .inl (.inl h_q2)) ?_ ?_
    · rintro j y σ H3 hy ⟨v8', rfl, rfl⟩
      clear k1
      have hn : NonI H3 y := by
        have := List.mem_of_getElem? hy
        simp only [List.mem_cons, List.not_mem_nil, or_false] at this
        rcases this with rfl | rfl | rfl | rfl | rfl
        · exact .inr ⟨_, rfl⟩
        · exact .inr ⟨_, rfl⟩
        · exact .inl ⟨_, tyv_non, kb_none_int⟩
        · exact .inl ⟨_, tyv_str, kb_str_int⟩
        · exact .inl ⟨_, tyv_tup h_q1, kb_tuple_int⟩
      obtain ⟨dx, hx⟩ := hv1.1
      walk_at "rd"
      refine ⟨_, _, hx, rfl, x, n, y, rfl, hv1, .inr ⟨hn, _, _, rfl, true, rfl, ?_⟩⟩
      rw [if_neg (by decide)]
    rintro σ H3 ⟨v8', rfl, rfl⟩
    refine k1 _ _ ?_
    walk_at "rd"
    exact q _ kp
end
section
variable {P : Program} {w : World} {K : PySem.W.Frag} {mg : Str → Option Value} {base : Heap}
theorem ok__law_other_class (S : Src K mg "_law_other_class" s__law_other_class) (T : Tx P K mg)   : CalE P w K mg base 1 "_law_other_class" ["_law_e"] (spOC K) := by
  refine S.calE sc__law_other_class bn__law_other_class (fun f cdv A outer s H Q a oe cls d hr hz hf h => ?_)
  · skip
    refine ⟨_, (pss_cons (ps_if (pt_val (Fx.pe_cB (Fx.call_isYT (a := a) List.mem_cons_self hz hf) T.b_isinstance (by decide +kernel) (Fx.pa_c (pv 0) (Fx.pa_c (pe_tup (Fx.pa_c (pe_glob (v := .ref (He.ga K "BadCommand")) rfl T.g_BadCommand rfl) (Fx.pa_c (pe_glob (v := .ref (He.ga K "BadMark")) rfl T.g_BadMark rfl) (Fx.pa_c (pe_glob (v := .ref (He.ga K "BadPlain")) rfl T.g_BadPlain rfl) (Fx.pa_c (pe_glob (v := .ref (He.ga K "BadSeed")) rfl T.g_BadSeed rfl) (Fx.pa_c (pe_glob (v := .ref (He.ga K "BadSheet")) rfl T.g_BadSheet rfl) (Fx.pa_c (pe_glob (v := .ref (He.ga K "BadStory")) rfl T.g_BadStory rfl) (Fx.pa_c (pe_glob (v := .ref (He.ga K "BadText")) rfl T.g_BadText rfl) (Fx.pa_c (pe_glob (v := .ref (He.ga K "BadTree")) rfl T.g_BadTree rfl) (Fx.pa_c (pe_glob (v := .ref (He.ga K "BadWord")) rfl T.g_BadWord rfl) pa_nil)))))))))) pa_nil)))) (pss_one (ps_ret pe_bl)) pss_nil)
        (pss_one (ps_ret (Fx.pe_cB (Fx.call_isYT (a := a) List.mem_cons_self hz hf) T.b_isinstance (by decide +kernel) (Fx.pa_c (pv 0) (Fx.pa_c (pe_tup (Fx.pa_c (pe_glob (v := .ref (He.ga K "NoRoutine")) rfl T.g_NoRoutine rfl) (Fx.pa_c (pe_glob (v := .ref (He.ga K "NoThing")) rfl T.g_NoThing rfl) (Fx.pa_c (pe_glob (v := .ref (He.ga K "TooLong")) rfl T.g_TooLong rfl) (Fx.pa_c (pe_glob (v := .ref (He.ga K "TooMany")) rfl T.g_TooMany rfl) (Fx.pa_c (pe_glob (v := .ref (He.ga K "Torn")) rfl T.g_Torn rfl) (Fx.pa_c (pe_glob (v := .ref (He.ga K "Unknown")) rfl T.g_Unknown rfl) pa_nil))))))) pa_nil)))))), ?_⟩
    obtain ⟨D, dd, rfl, rfl, ⟨fs, hd⟩, hE, k1', k2', q⟩ := h
    refine seqI fun K1 k1 => ?_
    walk_at "rd"
    refine ⟨by decide, fun p1 n1 => ?_⟩
    have t1 := same_new (o := .tup [V.ref (He.ga K "BadCommand"), V.ref (He.ga K "BadMark"), V.ref (He.ga K "BadPlain"), V.ref (He.ga K "BadSeed"), V.ref (He.ga K "BadSheet"), V.ref (He.ga K "BadStory"), V.ref (He.ga K "BadText"), V.ref (He.ga K "BadTree"), V.ref (He.ga K "BadWord")]) n1
    refine ⟨p1, rfl, D, rfl, dd, rfl, ⟨fs, t1 _ _ hd⟩, hE, _, upd_same, oc1 K, rfl, false, k1', false, rfl, ?_⟩
    rw [if_neg (by decide)]
    refine k1 _ _ ?_
    clear k1
    walk_at "rd"
    refine ⟨by decide, fun p2 n2 => ?_⟩
    have t2 := same_new (o := .tup [V.ref (He.ga K "NoRoutine"), V.ref (He.ga K "NoThing"), V.ref (He.ga K "TooLong"), V.ref (He.ga K "TooMany"), V.ref (He.ga K "Torn"), V.ref (He.ga K "Unknown")]) n2
    exact ⟨p2, rfl, D, rfl, dd, rfl, ⟨fs, t2 _ _ (t1 _ _ hd)⟩, hE, _, upd_same, oc2 K, rfl, false, k2', q _ (t1.trans t2)⟩
end
section
variable {P : Program} {w : World} {K : PySem.W.Frag} {mg : Str → Option Value} {base : Heap}
theorem ok__law_no_version (S : Src K mg "_law_no_version" s__law_no_version) (T : Tx P K mg) (C_Version_MU_initU : CalI P w K mg base (L2.CX P w) 3 (He.ga K "Version") ["self", "version"] (spVer K)) (C__law_other_class : CalE P w K mg base 1 "_law_other_class" ["_law_e"] (spOC K))  : CalG P w K mg base CX0 5 "_law_no_version" ["_law_thing"] (spNoV K) := by
  refine S.calG sc__law_no_version bn__law_no_version (fun vs H Q E h => ?_) (fun f cdv A outer s H vs Q E hG hr h => ?_)
  · first | (obtain ⟨rfl, _⟩ := h; rfl) | (obtain ⟨_, rfl, _⟩ := h; rfl) | (obtain ⟨_, _, rfl, _⟩ := h; rfl) | (obtain ⟨_, _, _, rfl, _⟩ := h; rfl) | (obtain ⟨_, _, _, _, rfl, _⟩ := h; rfl) | (obtain ⟨_, _, _, _, _, rfl, _⟩ := h; rfl) | (obtain ⟨_, _, _, _, _, _, rfl, _⟩ := h; rfl)
  · skip
    refine ⟨_, (pss_cons (ps_try_as (i := 1) rfl rfl sc__law_no_version.nd rfl rfl ⟨rfl, by decide, Or.inl T.g_FableError⟩ takes0 (fun W pn xe tk _ => (pss_one (ps_expr (Fx.pe_mkT C_Version_MU_initU (hr.mono (by decide)) T.g_Version tk (Fx.pa_c (pv 0) pa_nil))))) (fun a oe cls d pn hz hf => (pss_cons (ps_if (PW.pt (pw_or (pt_not (pt_val (Fx.pe_cB (call_isY hz hf) T.b_isinstance (by decide +kernel) (Fx.pa_c (pv 1) (Fx.pa_c (pe_glob (v := .ref (He.ga K "BadVersion")) rfl T.g_BadVersion rfl) pa_nil))))) (pw_or (pt_val (Fx.pe_cB (call_isY hz hf) T.b_isinstance (by decide +kernel) (Fx.pa_c (pv 1) (Fx.pa_c (pe_glob (v := .ref (He.ga K "BadNumber")) rfl T.g_BadNumber rfl) pa_nil)))) (pw_or1 (pt_val (Fx.pe_calE C__law_other_class (hr.mono (by decide)) hz hf (Fx.pa_c (pv 1) pa_nil))))))) (pss_one (ps_ret pe_bl)) pss_nil)
        (pss_one (ps_ret (pe_and (Fx.pe_cB (call_isY hz hf) T.b_isinstance (by decide +kernel) (Fx.pa_c (pv 1) (Fx.pa_c (pe_bltn (v := .ty "ValueError") (by rfl) T.b_ValueError (by decide +kernel) rfl) pa_nil))) (pe_one (pe_cmpR op_eq (Fx.pe_cB (Fx.call_reprK (K := K) rfl hG hr.units) T.b_repr (by decide +kernel) (Fx.pa_c (pe_xf (XC.xfc T.x_BadVersion) T.x_BadVersion.noF hz hf (pv 1)) pa_nil)) (Fx.pe_cB (Fx.call_reprK (K := K) rfl hG hr.units) T.b_repr (by decide +kernel) (Fx.pa_c (pv 0) pa_nil)) (nomark _)))))))))
        (pss_one (ps_ret pe_bl))), ?_⟩
    obtain ⟨v, d, rfl, hb, hs, q⟩ := h
    refine seqI fun K1 k1 => ?_
    walk_at "rd"
    intro x dx nx ndx ne
    have sx : Same H (upd (upd H dx (.own x)) x (.ins (He.ga K "Version") dx [])) := fun b o e => by
      rw [upd_ne (ne_of_none e nx), upd_ne (ne_of_none e ndx)]
      exact e
    refine ⟨x, dx, v, rfl, upd_same, .inr ⟨hb.same sx, fun dd H' sH nd ed => ?_⟩⟩
    clear k1
    refine ⟨true, T.m_BadVersion, fun _ a0 na => ?_, fun z => Bool.noConfusion z⟩
    have efs : ∃ fs, H' dd = some (.xd fs) := ⟨_, ed⟩
    have h2 := hs.same (sx.trans sH)
    walk_at "rd"
    simp only [rIsY, tXf]
    walk_at "rd"
    simp only [Value.ref.injEq, exists_eq_left', clsVal, Option.some.injEq, T.e_BadVersion, T.k_BadVersion_VE, T.k_BadVersion_BadVersion, T.k_BadVersion_BadNumber, true_and, Bool.not_true, Bool.false_eq_true, if_false, ed, HO.xd.injEq, exists_eq_left, exists_eq', List.lookup, beq_self_eq_true]
    refine ⟨_, dd, rfl, rfl, ⟨_, ed⟩, T.e_BadVersion, T.a1_BadVersion, T.a2_BadVersion, fun H2 s2 => ⟨false, rfl, ?_⟩⟩
    rw [if_neg (by decide)]
    have h3 := h2.same s2
    refine ⟨⟨_, s2 _ _ ed⟩, ?_⟩
    rw [if_pos trivial]
    refine ⟨_, s2 _ _ ed, v, rfl, d, h3.dp, h3.sh, h3.nd, h3.dep, h3.len, d, h3.dp, h3.sh, h3.nd, h3.dep, h3.len, ?_⟩
    rw [decide_eq_true rfl]
    exact q _ ((sx.trans sH).trans s2)
end
section
variable {P : Program} {w : World} {K : PySem.W.Frag} {mg : Str → Option Value} {base : Heap}
theorem ok__law_no_number (S : Src K mg "_law_no_number" s__law_no_number) (T : Tx P K mg) (C_Version_M_bytes_of : CalM P w K mg base (L2.CX P w) 3 (He.ga K "Version") "bytes_of" ["self", "number"] (spBytes K)) (C__law_other_class : CalE P w K mg base 1 "_law_other_class" ["_law_e"] (spOC K))  : CalG P w K mg base CX0 4 "_law_no_number" ["_law_told", "_law_thing"] (spNoN K) := by
  refine S.calG sc__law_no_number bn__law_no_number (fun vs H Q E h => ?_) (fun f cdv A outer s H vs Q E hG hr h => ?_)
  · first | (obtain ⟨rfl, _⟩ := h; rfl) | (obtain ⟨_, rfl, _⟩ := h; rfl) | (obtain ⟨_, _, rfl, _⟩ := h; rfl) | (obtain ⟨_, _, _, rfl, _⟩ := h; rfl) | (obtain ⟨_, _, _, _, rfl, _⟩ := h; rfl) | (obtain ⟨_, _, _, _, _, rfl, _⟩ := h; rfl) | (obtain ⟨_, _, _, _, _, _, rfl, _⟩ := h; rfl)
  · skip
    obtain ⟨f_Version_M_bytes_of, fd_Version_M_bytes_of, m_Version_M_bytes_of, b_Version_M_bytes_of, G_Version_M_bytes_of⟩ := C_Version_M_bytes_of.ex
    refine ⟨_, (pss_cons (ps_try_as (i := 2) rfl rfl sc__law_no_number.nd rfl rfl ⟨rfl, by decide, Or.inl T.g_FableError⟩ takes0 (fun W pn xe tk _ => (pss_one (ps_expr (Fx.pe_methT (pv 0) T.cl_Version m_Version_M_bytes_of G_Version_M_bytes_of (hr.mono (by decide)) b_Version_M_bytes_of tk (Fx.pa_c (pv 1) pa_nil))))) (fun a oe cls d pn hz hf => (pss_cons (ps_if (PW.pt (pw_or (pt_not (pt_val (Fx.pe_cB (call_isY hz hf) T.b_isinstance (by decide +kernel) (Fx.pa_c (pv 2) (Fx.pa_c (pe_glob (v := .ref (He.ga K "BadNumber")) rfl T.g_BadNumber rfl) pa_nil))))) (pw_or (pt_val (Fx.pe_cB (call_isY hz hf) T.b_isinstance (by decide +kernel) (Fx.pa_c (pv 2) (Fx.pa_c (pe_glob (v := .ref (He.ga K "BadVersion")) rfl T.g_BadVersion rfl) pa_nil)))) (pw_or1 (pt_val (Fx.pe_calE C__law_other_class (hr.mono (by decide)) hz hf (Fx.pa_c (pv 2) pa_nil))))))) (pss_one (ps_ret pe_bl)) pss_nil)
        (pss_one (ps_ret (pe_and (Fx.pe_cB (call_isY hz hf) T.b_isinstance (by decide +kernel) (Fx.pa_c (pv 2) (Fx.pa_c (pe_bltn (v := .ty "ValueError") (by rfl) T.b_ValueError (by decide +kernel) rfl) pa_nil))) (pe_one (pe_cmpR op_eq (Fx.pe_cB (Fx.call_reprK (K := K) rfl hG hr.units) T.b_repr (by decide +kernel) (Fx.pa_c (pe_xf (XC.xfc T.x_BadNumber) T.x_BadNumber.noF hz hf (pv 2)) pa_nil)) (Fx.pe_cB (Fx.call_reprK (K := K) rfl hG hr.units) T.b_repr (by decide +kernel) (Fx.pa_c (pv 1) pa_nil)) (nomark _)))))))))
        (pss_one (ps_ret pe_bl))), ?_⟩
    obtain ⟨x, n, v, d, rfl, hv, hb, hs, q⟩ := h
    obtain ⟨dx, hx⟩ := hv.1
    refine seqI fun K1 k1 => ?_
    walk_at "rd"
    refine ⟨_, _, hx, rfl, x, n, v, rfl, hv, .inr ⟨hb, fun dd H' sH nd ed => ?_⟩⟩
    clear k1
    refine ⟨true, T.m_BadNumber, fun _ a0 na => ?_, fun z => Bool.noConfusion z⟩
    have efs : ∃ fs, H' dd = some (.xd fs) := ⟨_, ed⟩
    have h2 := hs.same sH
    walk_at "rd"
    simp only [rIsY, tXf]
    walk_at "rd"
    simp only [Value.ref.injEq, exists_eq_left', clsVal, Option.some.injEq, T.e_BadNumber, T.k_BadNumber_VE, T.k_BadNumber_BadVersion, T.k_BadNumber_BadNumber, true_and, Bool.not_true, Bool.false_eq_true, if_false, ed, HO.xd.injEq, exists_eq_left, exists_eq', List.lookup, beq_self_eq_true]
    refine ⟨_, dd, rfl, rfl, ⟨_, ed⟩, T.e_BadNumber, T.a1_BadNumber, T.a2_BadNumber, fun H2 s2 => ⟨false, rfl, ?_⟩⟩
    rw [if_neg (by decide)]
    have h3 := h2.same s2
    refine ⟨⟨_, s2 _ _ ed⟩, ?_⟩
    rw [if_pos trivial]
    refine ⟨_, s2 _ _ ed, v, rfl, d, h3.dp, h3.sh, h3.nd, h3.dep, h3.len, d, h3.dp, h3.sh, h3.nd, h3.dep, h3.len, ?_⟩
    rw [decide_eq_true rfl]
    exact q _ (sH.trans s2)
end
section
variable {P : Program} {w : World} {K : PySem.W.Frag} {mg : Str → Option Value} {base : Heap}
theorem ok__law_refusals_hold (S : Src K mg "_law_refusals_hold" s__law_refusals_hold) (T : Tx P K mg) (C__law_pick : Cal P w K mg base CX0 1 "_law_pick" ["_law_bag", "_law_many"] spPick) (C__law_no_version : CalG P w K mg base CX0 5 "_law_no_version" ["_law_thing"] (spNoV K)) (C__law_no_number : CalG P w K mg base CX0 4 "_law_no_number" ["_law_told", "_law_thing"] (spNoN K))  : CalG P w K mg base CX0 6 "_law_refusals_hold" ["_law_bag", "_law_told", "_law_half"] (spRef K) := by
  refine S.calG sc__law_refusals_hold bn__law_refusals_hold (fun vs H Q E h => ?_) (fun f cdv A outer s H vs Q E hG hr h => ?_)
  · first | (obtain ⟨rfl, _⟩ := h; rfl) | (obtain ⟨_, rfl, _⟩ := h; rfl) | (obtain ⟨_, _, rfl, _⟩ := h; rfl) | (obtain ⟨_, _, _, rfl, _⟩ := h; rfl) | (obtain ⟨_, _, _, _, rfl, _⟩ := h; rfl) | (obtain ⟨_, _, _, _, _, rfl, _⟩ := h; rfl) | (obtain ⟨_, _, _, _, _, _, rfl, _⟩ := h; rfl)
  · skip
    refine ⟨_, (pss_cons (ps_set (i := 3) sc__law_refusals_hold.nd rfl (Or.inl rfl) (pe_op op_add (pe_op op_mul (Fx.pe_cal C__law_pick (hr.mono (by decide)) pass0 (Fx.pa_c (pv 0) (Fx.pa_c pe_int pa_nil))) pe_int) (Fx.pe_cal C__law_pick (hr.mono (by decide)) pass0 (Fx.pa_c (pv 0) (Fx.pa_c pe_int pa_nil)))))
        (pss_cons (ps_for PassesOwn.never rfl (pi_list (pe_lst (Fx.pa_c pe_int (Fx.pa_c pe_int (Fx.pa_c (pe_un un_neg pe_int) (Fx.pa_c (pe_op op_add pe_int (pv 3)) (Fx.pa_c (pe_op op_sub (pe_un un_neg pe_int) (pv 3)) (Fx.pa_c pe_bl (Fx.pa_c pe_bl (Fx.pa_c pe_non (Fx.pa_c pe_str (Fx.pa_c pe_str (Fx.pa_c (pe_tup (Fx.pa_c pe_int pa_nil)) (Fx.pa_c (pe_lst (Fx.pa_c pe_int pa_nil)) (Fx.pa_c (pe_op op_pow pe_int pe_int) pa_nil))))))))))))))) (pg_name (i := 4) sc__law_refusals_hold.nd rfl (Or.inl rfl)) (pss_one (ps_if (pt_not (pt_val (Fx.pe_calG C__law_no_version hG (hr.mono (by decide)) pass0 (Fx.pa_c (pv 4) pa_nil)))) (pss_one (ps_ret pe_bl)) pss_nil)))
        (pss_cons (ps_for PassesOwn.never rfl (pi_list (pe_lst (Fx.pa_c (pv 2) (Fx.pa_c (pe_op op_sub (pe_un un_neg (pv 2)) pe_int) (Fx.pa_c (pe_op op_add (pv 2) (pv 3)) (Fx.pa_c (pe_op op_sub (pe_op op_sub (pe_un un_neg (pv 2)) pe_int) (pv 3)) (Fx.pa_c pe_bl (Fx.pa_c pe_bl (Fx.pa_c pe_non (Fx.pa_c pe_str (Fx.pa_c (pe_tup (Fx.pa_c pe_int pa_nil)) (Fx.pa_c (pe_lst (Fx.pa_c pe_int pa_nil)) (Fx.pa_c (pe_op op_pow pe_int pe_int) pa_nil))))))))))))) (pg_name (i := 4) sc__law_refusals_hold.nd rfl (Or.inl rfl)) (pss_one (ps_if (pt_not (pt_val (Fx.pe_calG C__law_no_number hG (hr.mono (by decide)) pass0 (Fx.pa_c (pv 1) (Fx.pa_c (pv 4) pa_nil))))) (pss_one (ps_ret pe_bl)) pss_nil)))
        (pss_one (ps_ret pe_bl))))), ?_⟩
    obtain ⟨b, x, n, rfl, hB, hv, q⟩ := h
    have hl := hf_lo n
    refine seqI fun K1 k1 => ?_
    walk_at "rd"
    refine ⟨b, _, rfl, hB, by decide, by decide, fun c H1 c0 c1 kp1 => ⟨c, rfl, .inr (by decide), b, _, rfl, kp1.bag, by decide, by decide, fun d H2 d0 d1 kp2 => ⟨d, rfl, k1 _ _ ?_⟩⟩⟩
    clear k1
    have w1 : 0 ≤ c * 65536 + d ∧ c * 65536 + d ≤ 4294967296 := by omega
    generalize c * 65536 + d = wd at w1
    clear c0 c1 d0 d1
    have kp := kp1.trans kp2
    clear kp1 kp2
    have hv1 := hv.kp hB kp
    refine seqI fun K1 k1 => ?_
    refine forI fun R kR => ?_
    walk_at "rd"
    refine ⟨by decide, fun q1 m1 => ⟨by decide, fun q2 m2 => ⟨⟨by decide, by decide, by decide⟩, by decide, fun q3 m3 => ?_⟩⟩⟩
    have t1 := same_new (o := .tup [.int 1]) m1
    have t2 := same_new (o := .lst [.int 2]) m2
    have t3 := same_new (o := .lst (thL wd q1 q2)) m3
    have g1 := t3 _ _ (t2 _ _ (upd_same (H := H2) (a := q1) (o := .tup [.int 1])))
    have g2 := t3 _ _ (upd_same (H := upd H2 q1 (.tup [.int 1])) (a := q2) (o := .lst [.int 2]))
    have g3 := upd_same (H := upd (upd H2 q1 (.tup [.int 1])) q2 (.lst [.int 2])) (a := q3) (o := .lst (thL wd q1 q2))
    have sA := (t1.trans t2).trans t3
    refine ⟨⟨_, .inl (.inl g3)⟩, kR _ _ ?_⟩
    show ∃ W : Nat → Nat → L2.St → Hp → Prop, (∃ m, W 0 m _ (upd (upd (upd H2 q1 (.tup [.int 1])) q2 (.lst [.int 2])) q3 (.lst (thL wd q1 q2)))) ∧ _
    generalize upd (upd (upd H2 q1 (.tup [.int 1])) q2 (.lst [.int 2])) q3 (.lst (thL wd q1 q2)) = H3 at sA g1 g2 g3
    clear kR t1 t2 t3 m1 m2 m3
    replace hv1 := hv1.same sA
    replace kp := kp.then sA
    clear sA
    refine for_list (K := K) (a := q3) (xs := thL wd q1 q2) (fun j σ H' => ∃ (v4 : Option V), σ = [some (V.ref b), some (V.ref x), some (.int (hf n)), some (.int wd), v4] ∧ Same H3 H') ⟨_, rfl, Same.refl _⟩ (fun i σ H' _ ⟨_, _, e⟩ => .inl (.inl (e _ _ g3))) ?_ ?_
    · rintro j y σ H4 hy ⟨v4, rfl, s4⟩
      clear k1
      obtain ⟨dy, hb, hs⟩ := thL_bad (K := K) w1 (List.mem_of_getElem? hy) (s4 _ _ g1) (s4 _ _ g2)
      walk_at "rd"
      refine ⟨y, dy, rfl, hb, hs, fun H5 s5 => ⟨true, rfl, ?_⟩⟩
      rw [if_neg (by decide)]
      exact s4.trans s5
    rintro σ H4 ⟨v4, rfl, s4⟩
    refine k1 _ _ ?_
    clear k1 g1 g2 g3
    replace hv1 := hv1.same s4
    replace kp := kp.then s4
    refine seqI fun K1 k1 => ?_
    refine forI fun R kR => ?_
    walk_at "rd"
    refine ⟨by decide, fun q1 m1 => ⟨by decide, fun q2 m2 => ⟨⟨by decide, by decide, by decide⟩, by decide, fun q3 m3 => ?_⟩⟩⟩
    have t1 := same_new (o := .tup [.int 3]) m1
    have t2 := same_new (o := .lst [.int 4]) m2
    have t3 := same_new (o := .lst (noL n wd q1 q2)) m3
    have g1 := t3 _ _ (t2 _ _ (upd_same (H := H4) (a := q1) (o := .tup [.int 3])))
    have g2 := t3 _ _ (upd_same (H := upd H4 q1 (.tup [.int 3])) (a := q2) (o := .lst [.int 4]))
    have g3 := upd_same (H := upd (upd H4 q1 (.tup [.int 3])) q2 (.lst [.int 4])) (a := q3) (o := .lst (noL n wd q1 q2))
    have sA := (t1.trans t2).trans t3
    refine ⟨⟨_, .inl (.inl g3)⟩, kR _ _ ?_⟩
    show ∃ W : Nat → Nat → L2.St → Hp → Prop, (∃ m, W 0 m _ (upd (upd (upd H4 q1 (.tup [.int 3])) q2 (.lst [.int 4])) q3 (.lst (noL n wd q1 q2)))) ∧ _
    generalize upd (upd (upd H4 q1 (.tup [.int 3])) q2 (.lst [.int 4])) q3 (.lst (noL n wd q1 q2)) = H5 at sA g1 g2 g3
    clear kR t1 t2 t3 m1 m2 m3
    replace hv1 := hv1.same sA
    replace kp := kp.then sA
    clear sA
    refine for_list (K := K) (a := q3) (xs := noL n wd q1 q2) (fun j σ H' => ∃ (v4 : Option V), σ = [some (V.ref b), some (V.ref x), some (.int (hf n)), some (.int wd), v4] ∧ Same H5 H') ⟨_, rfl, Same.refl _⟩ (fun i σ H' _ ⟨_, _, e⟩ => .inl (.inl (e _ _ g3))) ?_ ?_
    · rintro j y σ H6 hy ⟨v4, rfl, s6⟩
      clear k1
      obtain ⟨dy, hb, hs⟩ := noL_bad (K := K) w1 (List.mem_of_getElem? hy) (s6 _ _ g1) (s6 _ _ g2)
      walk_at "rd"
      refine ⟨x, n, y, dy, rfl, hv1.same s6, hb, hs, fun H7 s7 => ⟨true, rfl, ?_⟩⟩
      rw [if_neg (by decide)]
      exact s6.trans s7
    rintro σ H6 ⟨v4, rfl, s6⟩
    refine k1 _ _ ?_
    walk_at "rd"
    exact q _ (kp.then s6)
end
section
variable {P : Program} {w : World} {K : PySem.W.Frag} {mg : Str → Option Value} {base : Heap}
theorem ok_law {f0 : Addr} {fd : FuncData} (F : FunD K "law" "law" (defArgs s_law) (defBody s_law) (defScope s_law) [] [] f0 fd) (T : Tx P K mg) (C__law_bagged : Cal P w K mg base CX0 1 "_law_bagged" ["_law_script"] (spBag K)) (C__law_pick : Cal P w K mg base CX0 1 "_law_pick" ["_law_bag", "_law_many"] spPick) (C_Version_MU_initU : CalI P w K mg base (L2.CX P w) 3 (He.ga K "Version") ["self", "version"] (spVer K)) (C__law_a_sizes : Cal P w K mg base CX0 1 "_law_a_sizes" ["_law_which"] spSizes) (C__law_integers : Cal P w K mg base CX0 2 "_law_integers" ["_law_actual", "_law_due"] spInts) (C__law_acts_hold : Cal P w K mg base CX0 4 "_law_acts_hold" ["_law_bag", "_law_told", "_law_sizes"] (spActs K)) (C__law_bytes_hold : Cal P w K mg base CX0 4 "_law_bytes_hold" ["_law_bag", "_law_told", "_law_sizes"] (spActs K)) (C__law_bounds_hold : Cal P w K mg base CX0 4 "_law_bounds_hold" ["_law_bag", "_law_told", "_law_sizes"] (spActs K)) (C__law_refusals_hold : CalG P w K mg base CX0 6 "_law_refusals_hold" ["_law_bag", "_law_told", "_law_half"] (spRef K)) (C_Version_MU_eqU : CalM P w K mg base CX0 1 (He.ga K "Version") "__eq__" ["self", "other"] (spVEq K)) (C__law_truth : Cal P w K mg base CX0 1 "_law_truth" ["_law_actual", "_law_due"] spTruth)  : FnG P w K mg base CX0 7 f0 fd ["_law_script"] (spLaw K) := by
  refine lawG F sc_law (fun vs H Q E h => ?_) (fun f cdv A outer s H vs Q E hG hr h => ?_)
  · first | (obtain ⟨rfl, _⟩ := h; rfl) | (obtain ⟨_, rfl, _⟩ := h; rfl) | (obtain ⟨_, _, rfl, _⟩ := h; rfl) | (obtain ⟨_, _, _, rfl, _⟩ := h; rfl) | (obtain ⟨_, _, _, _, rfl, _⟩ := h; rfl) | (obtain ⟨_, _, _, _, _, rfl, _⟩ := h; rfl) | (obtain ⟨_, _, _, _, _, _, rfl, _⟩ := h; rfl)
  · skip
    obtain ⟨f_Version_MU_eqU, fd_Version_MU_eqU, m_Version_MU_eqU, b_Version_MU_eqU, G_Version_MU_eqU⟩ := C_Version_MU_eqU.ex
    refine ⟨_, (pss_cons (ps_set (i := 1) sc_law.nd rfl (Or.inl rfl) (Fx.pe_cal C__law_bagged (hr.mono (by decide)) pass0 (Fx.pa_c (pv 0) pa_nil)))
        (pss_cons (ps_set (i := 2) sc_law.nd rfl (Or.inl rfl) (pe_op op_add pe_int (Fx.pe_cal C__law_pick (hr.mono (by decide)) pass0 (Fx.pa_c (pv 1) (Fx.pa_c pe_int pa_nil)))))
        (pss_cons (ps_set (i := 3) sc_law.nd rfl (Or.inl rfl) (pe_op op_add pe_int (pe_op op_mod (Fx.pe_cTy Fx.int_I T.b_int (by decide +kernel) (Fx.pa_c (pe_op op_add (pv 2) (Fx.pe_cal C__law_pick (hr.mono (by decide)) pass0 (Fx.pa_c (pv 1) (Fx.pa_c pe_int pa_nil)))) pa_nil)) pe_int)))
        (pss_cons (ps_set (i := 4) sc_law.nd rfl (Or.inl rfl) (Fx.pe_mk C_Version_MU_initU (hr.mono (by decide)) T.g_Version Fx.passX (Fx.pa_c (pv 2) pa_nil)))
        (pss_cons (ps_set (i := 5) sc_law.nd rfl (Or.inl rfl) (Fx.pe_mk C_Version_MU_initU (hr.mono (by decide)) T.g_Version Fx.passX (Fx.pa_c (pv 3) pa_nil)))
        (pss_cons (ps_for PassesOwn.never rfl (pi_range1 rfl T.b_range (Fx.pa_c pe_int pa_nil)) (pg_name (i := 6) sc_law.nd rfl (Or.inl rfl)) (pss_one (ps_for PassesOwn.never rfl (pi_list (pe_lst (Fx.pa_c (pe_tup (Fx.pa_c (pv 4) (Fx.pa_c (pv 2) pa_nil))) (Fx.pa_c (pe_tup (Fx.pa_c (pv 5) (Fx.pa_c (pv 3) pa_nil))) pa_nil)))) (pg_tup rfl (pgs_cons (pg_name (i := 7) sc_law.nd rfl (Or.inl rfl)) (pgs_cons (pg_name (i := 8) sc_law.nd rfl (Or.inl rfl)) pgs_nil))) (pss_cons (ps_set (i := 9) sc_law.nd rfl (Or.inl rfl) (Fx.pe_cal C__law_a_sizes (hr.mono (by decide)) pass0 (Fx.pa_c (pv 8) pa_nil)))
        (pss_cons (ps_set (i := 10) sc_law.nd rfl (Or.inl rfl) (pe_tup (Fx.pa_c (pe_fld (pv 7) rfl) (Fx.pa_c (pe_fld (pv 7) rfl) (Fx.pa_c (pe_fld (pv 7) rfl) (Fx.pa_c (pe_fld (pv 7) rfl) (Fx.pa_c (pe_fld (pv 7) rfl) (Fx.pa_c (pe_fld (pv 7) rfl) (Fx.pa_c (pe_fld (pv 7) rfl) pa_nil)))))))))
        (pss_cons (ps_if (PW.pt (pw_or (pt_not (pt_val (Fx.pe_cal C__law_integers (hr.mono (by decide)) pass0 (Fx.pa_c (pv 10) (Fx.pa_c (pv 9) pa_nil))))) (pw_or1 (pt_not (pt_val (Fx.pe_cal C__law_acts_hold (hr.mono (by decide)) pass0 (Fx.pa_c (pv 1) (Fx.pa_c (pv 7) (Fx.pa_c (pv 9) pa_nil))))))))) (pss_one (ps_ret pe_bl)) pss_nil)
        (pss_one (ps_if (PW.pt (pw_or (pt_not (pt_val (Fx.pe_cal C__law_bytes_hold (hr.mono (by decide)) pass0 (Fx.pa_c (pv 1) (Fx.pa_c (pv 7) (Fx.pa_c (pv 9) pa_nil)))))) (pw_or1 (pt_not (pt_val (Fx.pe_cal C__law_bounds_hold (hr.mono (by decide)) pass0 (Fx.pa_c (pv 1) (Fx.pa_c (pv 7) (Fx.pa_c (pv 9) pa_nil))))))))) (pss_one (ps_ret pe_bl)) pss_nil))))))))
        (pss_cons (ps_for PassesOwn.never rfl (pi_list (pe_lst (Fx.pa_c (pe_tup (Fx.pa_c (pv 4) (Fx.pa_c (pv 2) pa_nil))) (Fx.pa_c (pe_tup (Fx.pa_c (pv 5) (Fx.pa_c (pv 3) pa_nil))) pa_nil)))) (pg_tup rfl (pgs_cons (pg_name (i := 7) sc_law.nd rfl (Or.inl rfl)) (pgs_cons (pg_name (i := 8) sc_law.nd rfl (Or.inl rfl)) pgs_nil))) (pss_one (ps_if (pt_not (pt_val (Fx.pe_calG C__law_refusals_hold hG (hr.mono (by decide)) pass0 (Fx.pa_c (pv 1) (Fx.pa_c (pv 7) (Fx.pa_c (pe_ix Fx.ix_T (Fx.pe_cal C__law_a_sizes (hr.mono (by decide)) pass0 (Fx.pa_c (pv 8) pa_nil)) pe_int (fun _ _ => rfl)) pa_nil)))))) (pss_one (ps_ret pe_bl)) pss_nil)))
        (pss_cons (ps_if (PW.pt (pw_or (pt_not (pt_val (Fx.pe_cal C__law_truth (hr.mono (by decide)) pass0 (Fx.pa_c (pe_cmpR (Fx.op_eqOwn C_Version_MU_eqU (hr.mono (by decide)) pass0) (pv 4) (Fx.pe_mk C_Version_MU_initU (hr.mono (by decide)) T.g_Version Fx.passX (Fx.pa_c (pv 2) pa_nil)) (nomark _)) (Fx.pa_c pe_bl pa_nil))))) (pw_or1 (pt_not (pt_val (Fx.pe_cal C__law_truth (hr.mono (by decide)) pass0 (Fx.pa_c (pe_cmpR (Fx.op_eqOwn C_Version_MU_eqU (hr.mono (by decide)) pass0) (pv 5) (Fx.pe_mk C_Version_MU_initU (hr.mono (by decide)) T.g_Version Fx.passX (Fx.pa_c (pv 3) pa_nil)) (nomark _)) (Fx.pa_c pe_bl pa_nil)))))))) (pss_one (ps_ret pe_bl)) pss_nil)
        (pss_cons (ps_if (PW.pt (pw_or (pt_not (pt_val (Fx.pe_cal C__law_truth (hr.mono (by decide)) pass0 (Fx.pa_c (pe_cmpR (Fx.op_eqOwn C_Version_MU_eqU (hr.mono (by decide)) pass0) (pv 4) (pv 5) (nomark _)) (Fx.pa_c pe_bl pa_nil))))) (pw_or1 (pt_not (pt_val (Fx.pe_cal C__law_truth (hr.mono (by decide)) pass0 (Fx.pa_c (pe_cmpR (Fx.op_eqOwn C_Version_MU_eqU (hr.mono (by decide)) pass0) (pv 5) (pv 4) (nomark _)) (Fx.pa_c pe_bl pa_nil)))))))) (pss_one (ps_ret pe_bl)) pss_nil)
        (pss_one (ps_ret (Fx.pe_cal C__law_acts_hold (hr.mono (by decide)) pass0 (Fx.pa_c (pv 1) (Fx.pa_c (pv 4) (Fx.pa_c (Fx.pe_cal C__law_a_sizes (hr.mono (by decide)) pass0 (Fx.pa_c (pv 2) pa_nil)) pa_nil))))))))))))))), ?_⟩
    obtain ⟨a, ns, rfl, hS, hlen, q⟩ := h
    refine seqI fun K1 k1 => ?_
    walk_at "rd"
    refine ⟨a, ns, rfl, hS, hlen, fun b H1 s1 n1 B1 => k1 _ _ ?_⟩
    clear k1 s1 n1
    refine seqI fun K1 k1 => ?_
    walk_at "rd"
    refine ⟨b, 3, rfl, B1, by decide, by decide, fun m H2 m0 m1 kp2 => ⟨m, rfl, k1 _ _ ?_⟩⟩
    clear k1
    have v1 : 1 ≤ 1 + m := by omega
    have v3 : 1 + m ≤ 3 := by omega
    generalize 1 + m = n at v1 v3
    have B2 := kp2.bag
    clear kp2 B1 m0 m1
    refine seqI fun K1 k1 => ?_
    walk_at "rd"
    refine ⟨b, 2, rfl, B2, by decide, by decide, fun m H3 m0 m1 kp3 => ⟨m, rfl, by decide, k1 _ _ ?_⟩⟩
    clear k1
    have u1 : 1 ≤ 1 + (n + m) % 3 := by omega
    have u3 : 1 + (n + m) % 3 ≤ 3 := by omega
    have un : n ≠ 1 + (n + m) % 3 := by omega
    generalize 1 + (n + m) % 3 = n2 at u1 u3 un
    have B3 := kp3.bag
    clear kp3 B2 m0 m1
    refine seqI fun K1 k1 => ?_
    walk_at "rd"
    intro x1 dx1 nx1 ndx1 _
    refine mk_ver nx1 ndx1 v1 v3 fun H4 s4 hv1 => ⟨rfl, k1 _ _ ?_⟩
    clear k1 nx1 ndx1
    have B4 := B3.same s4
    clear s4 B3
    refine seqI fun K1 k1 => ?_
    walk_at "rd"
    intro x2 dx2 nx2 ndx2 _
    refine mk_ver nx2 ndx2 u1 u3 fun H5 s5 hv2 => ⟨rfl, k1 _ _ ?_⟩
    clear k1 nx2 ndx2
    replace hv1 := hv1.same s5
    have B5 := B4.same s5
    clear s5 B4
    refine seqI fun K1 k1 => ?_
    refine forI fun R kR => ?_
    walk_at "rd"
    refine ⟨by decide, by decide, kR _ _ ?_⟩
    clear kR
    refine for_range (lo := 0) (n := (3 : Int).toNat) (fun k σ H' => ∃ (v6 v7 v8 v9 v10 : Option V), σ = [some (V.ref a), some (V.ref b), some (V.int n), some (.int n2), some (.ref x1), some (.ref x2), v6, v7, v8, v9, v10] ∧ Kp b H5 H') ⟨none, none, none, none, none, rfl, Kp.refl B5⟩ ?_ ?_
    · rintro k σ H6 hk ⟨v6, v7, v8, v9, v10, rfl, kp⟩
      clear k1
      have hw1 := hv1.kp B5 kp
      have hw2 := hv2.kp B5 kp
      have B6 := kp.bag
      refine forI fun R kR => ?_
      walk_at "rd"
      refine ⟨by decide, fun q1 m_q1 => ⟨by decide, fun q2 m_q2 => ⟨by decide, fun q3 m_q3 => ?_⟩⟩⟩
      have t_q1 := same_new (H := H6) (o := .tup [V.ref x1, V.int n]) m_q1
      have t_q2 := same_new (H := (upd H6 q1 (.tup [V.ref x1, V.int n]))) (o := .tup [V.ref x2, V.int n2]) m_q2
      have t_q3 := same_new (H := (upd (upd H6 q1 (.tup [V.ref x1, V.int n])) q2 (.tup [V.ref x2, V.int n2]))) (o := .lst [V.ref q1, V.ref q2]) m_q3
      have h_q1 : (upd (upd (upd H6 q1 (.tup [V.ref x1, V.int n])) q2 (.tup [V.ref x2, V.int n2])) q3 (.lst [V.ref q1, V.ref q2])) q1 = some (.tup [V.ref x1, V.int n]) := (t_q3 _ _ (t_q2 _ _ upd_same))
      have h_q2 : (upd (upd (upd H6 q1 (.tup [V.ref x1, V.int n])) q2 (.tup [V.ref x2, V.int n2])) q3 (.lst [V.ref q1, V.ref q2])) q2 = some (.tup [V.ref x2, V.int n2]) := (t_q3 _ _ upd_same)
      have h_q3 : (upd (upd (upd H6 q1 (.tup [V.ref x1, V.int n])) q2 (.tup [V.ref x2, V.int n2])) q3 (.lst [V.ref q1, V.ref q2])) q3 = some (.lst [V.ref q1, V.ref q2]) := upd_same
      have s7 := ((t_q1.trans t_q2).trans t_q3)
      clear t_q1 t_q2 t_q3
      generalize upd (upd (upd H6 q1 (.tup [V.ref x1, V.int n])) q2 (.tup [V.ref x2, V.int n2])) q3 (.lst [V.ref q1, V.ref q2]) = H7 at s7 h_q1 h_q2 h_q3
      clear m_q3 m_q2 m_q1
      refine ⟨⟨_, .inl (.inl h_q3)⟩, kR _ _ ?_⟩
      clear kR
      replace hw1 := hw1.same s7
      replace hw2 := hw2.same s7
      replace kp := kp.then s7
      have B7 := B6.same s7
      clear s7 B6
      have row : ∀ y ∈ [V.ref q1, V.ref q2], ∃ (qx xx : Addr) (nn : Int), y = .ref qx ∧ H7 qx = some (.tup [.ref xx, .int nn]) ∧ Ver K H7 xx nn := by
        intro y hy
        simp only [List.mem_cons, List.not_mem_nil, or_false] at hy
        rcases hy with rfl | rfl
        · exact ⟨_, _, _, rfl, h_q1, hw1⟩
        · exact ⟨_, _, _, rfl, h_q2, hw2⟩
      refine for_list (K := K) (a := q3) (xs := [V.ref q1, V.ref q2]) (fun j σ H' => ∃ (v7 v8 v9 v10 : Option V), σ = [some (V.ref a), some (V.ref b), some (V.int n), some (.int n2), some (.ref x1), some (.ref x2), some (.int (0 + (k : Int))), v7, v8, v9, v10] ∧ Kp b H7 H') ⟨_, _, _, _, rfl, Kp.refl B7⟩ (fun i σ H' _ ⟨_, _, _, _, _, e⟩ => .inl (.inl (e.lst B7 h_q3))) ?_ ?_
      · rintro j y σ H8 hy ⟨v7', v8', v9', v10', rfl, kp8⟩
        obtain ⟨qx, xx, nn, rfl, hq, hv⟩ := row y (List.mem_of_getElem? hy)
        replace hq := kp8.tup B7 hq
        replace hv := hv.kp B7 kp8
        have B8 := kp8.bag
        walk_at "rd"
        refine ⟨_, .inl (.inl hq), rfl, _, _, rfl, _, _, rfl, rfl, ?_⟩
        walk_at "rd"
        refine ⟨nn, rfl, hv.2.1, hv.2.2, fun p9 H9 s9 h9 => ?_⟩
        walk_at "rd"
        replace hv := hv.same s9
        obtain ⟨dx, hx⟩ := hv.1
        refine ⟨_, _, _, hx, T.cl_Version, T.n_Version_number, _, rfl, ?_⟩
        refine ⟨_, _, _, hx, T.cl_Version, T.n_Version_width, _, rfl, ?_⟩
        refine ⟨_, _, _, hx, T.cl_Version, T.n_Version_scale, _, rfl, ?_⟩
        refine ⟨_, _, _, hx, T.cl_Version, T.n_Version_marks, _, rfl, ?_⟩
        refine ⟨_, _, _, hx, T.cl_Version, T.n_Version_link, _, rfl, ?_⟩
        refine ⟨_, _, _, hx, T.cl_Version, T.n_Version_cut, _, rfl, ?_⟩
        refine ⟨_, _, _, hx, T.cl_Version, T.n_Version_half, _, rfl, ?_⟩
        refine ⟨by decide, fun p10 n10 => ?_⟩
        have s10 := same_new (o := .tup (mi (sizesL nn))) n10
        have h10 := upd_same (H := H9) (a := p10) (o := .tup (mi (sizesL nn)))
        refine ⟨p10, p9, sizesL nn, rfl, h10, s10 _ _ h9, (show 7 ≤ 1000 by decide), fun H11 s11 => ⟨true, rfl, ?_⟩⟩
        rw [if_neg (by decide)]
        have s12 := s10.trans s11
        have kp11 := kp8.then (s9.trans s12)
        replace hv := hv.same s12
        replace h9 := s12 _ _ h9
        clear s10 s11 s12 h10 hx s9 n10
        refine ⟨b, xx, p9, nn, rfl, kp11.bag, hv, h9, fun H12 kp12 => ⟨true, rfl, ?_⟩⟩
        rw [if_neg (by decide)]
        have kpA := kp11.trans kp12
        have hvA := hv.kp kp11.bag kp12
        have h9A := kp12.tup kp11.bag h9
        refine ⟨b, xx, p9, nn, rfl, kpA.bag, hvA, h9A, fun H13 kp13 => ⟨true, rfl, ?_⟩⟩
        rw [if_neg (by decide)]
        refine ⟨b, xx, p9, nn, rfl, kp13.bag, hvA.kp kpA.bag kp13, kp13.tup kpA.bag h9A, fun H14 kp14 => ⟨true, rfl, ?_⟩⟩
        rw [if_neg (by decide)]
        exact (kpA.trans kp13).trans kp14
      rintro σ H8 ⟨v7', v8', v9', v10', rfl, kp8⟩
      exact ⟨_, _, _, _, _, rfl, kp.trans kp8⟩
    rintro σ H6 ⟨v6, v7, v8, v9, v10, rfl, kp⟩
    refine k1 _ _ ?_
    clear k1
    replace hv1 := hv1.kp B5 kp
    replace hv2 := hv2.kp B5 kp
    have B6 := kp.bag
    clear kp B5
    refine seqI fun K1 k1 => ?_
    refine forI fun R kR => ?_
    walk_at "rd"
    refine ⟨by decide, fun q1 m_q1 => ⟨by decide, fun q2 m_q2 => ⟨by decide, fun q3 m_q3 => ?_⟩⟩⟩
    have t_q1 := same_new (H := H6) (o := .tup [V.ref x1, V.int n]) m_q1
    have t_q2 := same_new (H := (upd H6 q1 (.tup [V.ref x1, V.int n]))) (o := .tup [V.ref x2, V.int n2]) m_q2
    have t_q3 := same_new (H := (upd (upd H6 q1 (.tup [V.ref x1, V.int n])) q2 (.tup [V.ref x2, V.int n2]))) (o := .lst [V.ref q1, V.ref q2]) m_q3
    have h_q1 : (upd (upd (upd H6 q1 (.tup [V.ref x1, V.int n])) q2 (.tup [V.ref x2, V.int n2])) q3 (.lst [V.ref q1, V.ref q2])) q1 = some (.tup [V.ref x1, V.int n]) := (t_q3 _ _ (t_q2 _ _ upd_same))
    have h_q2 : (upd (upd (upd H6 q1 (.tup [V.ref x1, V.int n])) q2 (.tup [V.ref x2, V.int n2])) q3 (.lst [V.ref q1, V.ref q2])) q2 = some (.tup [V.ref x2, V.int n2]) := (t_q3 _ _ upd_same)
    have h_q3 : (upd (upd (upd H6 q1 (.tup [V.ref x1, V.int n])) q2 (.tup [V.ref x2, V.int n2])) q3 (.lst [V.ref q1, V.ref q2])) q3 = some (.lst [V.ref q1, V.ref q2]) := upd_same
    have s7 := ((t_q1.trans t_q2).trans t_q3)
    clear t_q1 t_q2 t_q3
    generalize upd (upd (upd H6 q1 (.tup [V.ref x1, V.int n])) q2 (.tup [V.ref x2, V.int n2])) q3 (.lst [V.ref q1, V.ref q2]) = H7 at s7 h_q1 h_q2 h_q3
    clear m_q3 m_q2 m_q1
    refine ⟨⟨_, .inl (.inl h_q3)⟩, kR _ _ ?_⟩
    clear kR
    replace hv1 := hv1.same s7
    replace hv2 := hv2.same s7
    have B7 := B6.same s7
    clear s7 B6
    have row : ∀ y ∈ [V.ref q1, V.ref q2], ∃ (qx xx : Addr) (nn : Int), y = .ref qx ∧ H7 qx = some (.tup [.ref xx, .int nn]) ∧ Ver K H7 xx nn := by
      intro y hy
      simp only [List.mem_cons, List.not_mem_nil, or_false] at hy
      rcases hy with rfl | rfl
      · exact ⟨_, _, _, rfl, h_q1, hv1⟩
      · exact ⟨_, _, _, rfl, h_q2, hv2⟩
    refine for_list (K := K) (a := q3) (xs := [V.ref q1, V.ref q2]) (fun j σ H' => ∃ (v7 v8 : Option V), σ = [some (V.ref a), some (V.ref b), some (V.int n), some (.int n2), some (.ref x1), some (.ref x2), v6, v7, v8, v9, v10] ∧ Kp b H7 H') ⟨_, _, rfl, Kp.refl B7⟩ (fun i σ H' _ ⟨_, _, _, e⟩ => .inl (.inl (e.lst B7 h_q3))) ?_ ?_
    · rintro j y σ H8 hy ⟨v7', v8', rfl, kp8⟩
      obtain ⟨qx, xx, nn, rfl, hq, hv⟩ := row y (List.mem_of_getElem? hy)
      replace hq := kp8.tup B7 hq
      replace hv := hv.kp B7 kp8
      clear k1
      walk_at "rd"
      refine ⟨_, .inl (.inl hq), rfl, _, _, rfl, _, _, rfl, rfl, ?_⟩
      walk_at "rd"
      refine ⟨nn, rfl, hv.2.1, hv.2.2, fun p9 H9 s9 h9 => ?_⟩
      walk_at "rd"
      have kp9 := kp8.then s9
      refine ⟨_, h9, _, rfl, b, xx, nn, rfl, kp9.bag, hv.same s9, fun H10 kp10 => ⟨true, rfl, ?_⟩⟩
      rw [if_neg (by decide)]
      exact kp9.trans kp10
    rintro σ H8 ⟨v7', v8', rfl, kp8⟩
    refine k1 _ _ ?_
    clear k1 row h_q1 h_q2 h_q3
    replace hv1 := hv1.kp B7 kp8
    replace hv2 := hv2.kp B7 kp8
    have B8 := kp8.bag
    clear kp8 B7
    refine seqI fun K1 k1 => ?_
    walk_at "rd"
    intro y1 dy1 ny1 ndy1 _
    refine mk_ver ny1 ndy1 v1 v3 fun H9 s9 hy1 => ⟨rfl, ?_⟩
    replace hv1 := hv1.same s9
    replace hv2 := hv2.same s9
    have B9 := B8.same s9
    clear s9 B8 ny1 ndy1
    obtain ⟨e1, hx1⟩ := hv1.1
    obtain ⟨e2, hx2⟩ := hy1.1
    refine ⟨_, _, _, hx1, _, hx2, x1, y1, n, n, rfl, hv1, hy1, true, by rw [decide_eq_true rfl], _, _, rfl, true, rfl, ?_⟩
    clear e1 hx1 e2 hx2
    rw [if_neg (by decide)]
    intro y2 dy2 ny2 ndy2 _
    refine mk_ver ny2 ndy2 u1 u3 fun H10 s10 hy2 => ⟨rfl, ?_⟩
    replace hv1 := hv1.same s10
    replace hv2 := hv2.same s10
    have B10 := B9.same s10
    clear s10 B9 ny2 ndy2
    obtain ⟨e1, hx1⟩ := hv2.1
    obtain ⟨e2, hx2⟩ := hy2.1
    refine ⟨_, _, _, hx1, _, hx2, x2, y2, n2, n2, rfl, hv2, hy2, true, by rw [decide_eq_true rfl], _, _, rfl, true, rfl, ?_⟩
    rw [if_neg (by decide)]
    refine k1 _ _ ?_
    clear k1 e1 hx1 e2 hx2
    refine seqI fun K1 k1 => ?_
    walk_at "rd"
    obtain ⟨e1, hx1⟩ := hv1.1
    obtain ⟨e2, hx2⟩ := hv2.1
    refine ⟨_, _, _, hx1, _, hx2, x1, x2, n, n2, rfl, hv1, hv2, false, by rw [decide_eq_false un], _, _, rfl, true, rfl, ?_⟩
    rw [if_neg (by decide)]
    refine ⟨_, _, _, hx2, _, hx1, x2, x1, n2, n, rfl, hv2, hv1, false, by rw [decide_eq_false fun e => un e.symm], _, _, rfl, true, rfl, ?_⟩
    rw [if_neg (by decide)]
    refine k1 _ _ ?_
    clear k1
    walk_at "rd"
    refine ⟨n, rfl, v1, v3, fun p9 H11 s11 h9 => ?_⟩
    exact ⟨b, x1, p9, n, rfl, B10.same s11, hv1.same s11, h9, fun H12 kp12 => q _⟩
end
def d_f_Version_MU_initU : He.DefD := ⟨("Version", some "__init__"), "__init__", "Version.__init__", defArgs s_Version_MU_initU, defBody s_Version_MU_initU, defScope s_Version_MU_initU, [], []⟩
def d_f_Version_MU_eqU : He.DefD := ⟨("Version", some "__eq__"), "__eq__", "Version.__eq__", defArgs s_Version_MU_eqU, defBody s_Version_MU_eqU, defScope s_Version_MU_eqU, [], []⟩
def d_f_Version_M_wrap : He.DefD := ⟨("Version", some "wrap"), "wrap", "Version.wrap", defArgs s_Version_M_wrap, defBody s_Version_M_wrap, defScope s_Version_M_wrap, [], []⟩
def d_f_Version_M_is_number : He.DefD := ⟨("Version", some "is_number"), "is_number", "Version.is_number", defArgs s_Version_M_is_number, defBody s_Version_M_is_number, defScope s_Version_M_is_number, [], []⟩
def d_f_Version_M_bytes_of : He.DefD := ⟨("Version", some "bytes_of"), "bytes_of", "Version.bytes_of", defArgs s_Version_M_bytes_of, defBody s_Version_M_bytes_of, defScope s_Version_M_bytes_of, [], []⟩
def d_f_Version_M_number_of : He.DefD := ⟨("Version", some "number_of"), "number_of", "Version.number_of", defArgs s_Version_M_number_of, defBody s_Version_M_number_of, defScope s_Version_M_number_of, [], []⟩
def d_f_Version_M_work : He.DefD := ⟨("Version", some "work"), "work", "Version.work", defArgs s_Version_M_work, defBody s_Version_M_work, defScope s_Version_M_work, [], []⟩
def d_f_Version_M_greatest : He.DefD := ⟨("Version", some "greatest"), "greatest", "Version.greatest", defArgs s_Version_M_greatest, defBody s_Version_M_greatest, defScope s_Version_M_greatest, [], []⟩
def d_f_is_integer : He.DefD := ⟨("is_integer", none), "is_integer", "is_integer", defArgs s_is_integer, defBody s_is_integer, defScope s_is_integer, [], []⟩
def d_f_within : He.DefD := ⟨("within", none), "within", "within", defArgs s_within, defBody s_within, defScope s_within, [], []⟩
def d_f__law_bagged : He.DefD := ⟨("_law_bagged", none), "_law_bagged", "_law_bagged", defArgs s__law_bagged, defBody s__law_bagged, defScope s__law_bagged, [], []⟩
def d_f__law_pick : He.DefD := ⟨("_law_pick", none), "_law_pick", "_law_pick", defArgs s__law_pick, defBody s__law_pick, defScope s__law_pick, [], []⟩
def d_f__law_choice : He.DefD := ⟨("_law_choice", none), "_law_choice", "_law_choice", defArgs s__law_choice, defBody s__law_choice, defScope s__law_choice, [], []⟩
def d_f__law_integer : He.DefD := ⟨("_law_integer", none), "_law_integer", "_law_integer", defArgs s__law_integer, defBody s__law_integer, defScope s__law_integer, [], []⟩
def d_f__law_integers : He.DefD := ⟨("_law_integers", none), "_law_integers", "_law_integers", defArgs s__law_integers, defBody s__law_integers, defScope s__law_integers, [], []⟩
def d_f__law_truth : He.DefD := ⟨("_law_truth", none), "_law_truth", "_law_truth", defArgs s__law_truth, defBody s__law_truth, defScope s__law_truth, [], []⟩
def d_f__law_a_sizes : He.DefD := ⟨("_law_a_sizes", none), "_law_a_sizes", "_law_a_sizes", defArgs s__law_a_sizes, defBody s__law_a_sizes, defScope s__law_a_sizes, [], []⟩
def d_f__law_a_number : He.DefD := ⟨("_law_a_number", none), "_law_a_number", "_law_a_number", defArgs s__law_a_number, defBody s__law_a_number, defScope s__law_a_number, [], []⟩
def d_f__law_large : He.DefD := ⟨("_law_large", none), "_law_large", "_law_large", defArgs s__law_large, defBody s__law_large, defScope s__law_large, [], []⟩
def d_f__law_wrapped : He.DefD := ⟨("_law_wrapped", none), "_law_wrapped", "_law_wrapped", defArgs s__law_wrapped, defBody s__law_wrapped, defScope s__law_wrapped, [], []⟩
def d_f__law_worked : He.DefD := ⟨("_law_worked", none), "_law_worked", "_law_worked", defArgs s__law_worked, defBody s__law_worked, defScope s__law_worked, [], []⟩
def d_f__law_bytes : He.DefD := ⟨("_law_bytes", none), "_law_bytes", "_law_bytes", defArgs s__law_bytes, defBody s__law_bytes, defScope s__law_bytes, [], []⟩
def d_f__law_acts_hold : He.DefD := ⟨("_law_acts_hold", none), "_law_acts_hold", "_law_acts_hold", defArgs s__law_acts_hold, defBody s__law_acts_hold, defScope s__law_acts_hold, [], []⟩
def d_f__law_bytes_hold : He.DefD := ⟨("_law_bytes_hold", none), "_law_bytes_hold", "_law_bytes_hold", defArgs s__law_bytes_hold, defBody s__law_bytes_hold, defScope s__law_bytes_hold, [], []⟩
def d_f__law_bounds_hold : He.DefD := ⟨("_law_bounds_hold", none), "_law_bounds_hold", "_law_bounds_hold", defArgs s__law_bounds_hold, defBody s__law_bounds_hold, defScope s__law_bounds_hold, [], []⟩
def d_f__law_other_class : He.DefD := ⟨("_law_other_class", none), "_law_other_class", "_law_other_class", defArgs s__law_other_class, defBody s__law_other_class, defScope s__law_other_class, [], []⟩
def d_f__law_no_version : He.DefD := ⟨("_law_no_version", none), "_law_no_version", "_law_no_version", defArgs s__law_no_version, defBody s__law_no_version, defScope s__law_no_version, [], []⟩
def d_f__law_no_number : He.DefD := ⟨("_law_no_number", none), "_law_no_number", "_law_no_number", defArgs s__law_no_number, defBody s__law_no_number, defScope s__law_no_number, [], []⟩
def d_f__law_refusals_hold : He.DefD := ⟨("_law_refusals_hold", none), "_law_refusals_hold", "_law_refusals_hold", defArgs s__law_refusals_hold, defBody s__law_refusals_hold, defScope s__law_refusals_hold, [], []⟩
def d_f_law : He.DefD := ⟨("law", none), "law", "law", defArgs s_law, defBody s_law, defScope s_law, [], []⟩
def fn : List He.DefD := [d_f_Version_MU_initU, d_f_Version_MU_eqU, d_f_Version_M_wrap, d_f_Version_M_is_number, d_f_Version_M_bytes_of, d_f_Version_M_number_of, d_f_Version_M_work, d_f_Version_M_greatest, d_f_is_integer, d_f_within, d_f__law_bagged, d_f__law_pick, d_f__law_choice, d_f__law_integer, d_f__law_integers, d_f__law_truth, d_f__law_a_sizes, d_f__law_a_number, d_f__law_large, d_f__law_wrapped, d_f__law_worked, d_f__law_bytes, d_f__law_acts_hold, d_f__law_bytes_hold, d_f__law_bounds_hold, d_f__law_other_class, d_f__law_no_version, d_f__law_no_number, d_f__law_refusals_hold, d_f_law]
def d_BadNumber : FxH.InD := ⟨"BadNumber", "number", "BadNumber.__init__", inClass (top 3) 0⟩
theorem bd_BadNumber : ∀ (fd : FuncData) (p1 p2 : Pos), fd.params = xA d_BadNumber.f p1 p2 → fd.defaults = .none → ∀ (u1 u2 : Value), bindArgs fd ⟨[u1, u2], []⟩ = pure [(("self" : Str), u1), (d_BadNumber.f, u2)] := fun fd p1 p2 e1 e2 u1 u2 => by
  obtain ⟨n1, n2, n3, n4, n5, n6, n7, n8, n9, n10, n11, n12, n13, n14, n15⟩ := fd
  dsimp only at e1 e2
  subst e1 e2
  rfl
def d_BadVersion : FxH.InD := ⟨"BadVersion", "version", "BadVersion.__init__", inClass (top 2) 0⟩
theorem bd_BadVersion : ∀ (fd : FuncData) (p1 p2 : Pos), fd.params = xA d_BadVersion.f p1 p2 → fd.defaults = .none → ∀ (u1 u2 : Value), bindArgs fd ⟨[u1, u2], []⟩ = pure [(("self" : Str), u1), (d_BadVersion.f, u2)] := fun fd p1 p2 e1 e2 u1 u2 => by
  obtain ⟨n1, n2, n3, n4, n5, n6, n7, n8, n9, n10, n11, n12, n13, n14, n15⟩ := fd
  dsimp only at e1 e2
  subst e1 e2
  rfl
def fi : List FxH.InD := [d_BadNumber, d_BadVersion]
def fa : List FxH.Fct := [(He.Fa.free "ValueError").ok,
  (He.Fa.free "all").ok,
  (He.Fa.free "bool").ok,
  (He.Fa.free "int").ok,
  (He.Fa.free "isinstance").ok,
  (He.Fa.free "len").ok,
  (He.Fa.free "list").ok,
  (He.Fa.free "range").ok,
  (He.Fa.free "repr").ok,
  (He.Fa.free "tuple").ok,
  (He.Fa.free "super").ok,
  (He.Fa.glo "SIZES").ok,
  (He.Fa.glo "BadCommand").ok,
  (He.Fa.glo "BadMark").ok,
  (He.Fa.glo "BadNumber").ok,
  (fun K => FxH.excB K "BadNumber"),
  (He.Fa.glo "BadPlain").ok,
  (He.Fa.glo "BadSeed").ok,
  (He.Fa.glo "BadSheet").ok,
  (He.Fa.glo "BadStory").ok,
  (He.Fa.glo "BadText").ok,
  (He.Fa.glo "BadTree").ok,
  (He.Fa.glo "BadVersion").ok,
  (fun K => FxH.excB K "BadVersion"),
  (He.Fa.glo "BadWord").ok,
  (He.Fa.glo "FableError").ok,
  (He.Fa.glo "NoRoutine").ok,
  (He.Fa.glo "NoThing").ok,
  (He.Fa.glo "TooLong").ok,
  (He.Fa.glo "TooMany").ok,
  (He.Fa.glo "Torn").ok,
  (He.Fa.glo "Unknown").ok,
  (He.Fa.glo "Version").ok,
  (He.Fa.cls "Version").ok,
  (He.Fa.noat "Version" "cut").ok,
  (He.Fa.noat "Version" "half").ok,
  (He.Fa.noat "Version" "link").ok,
  (He.Fa.noat "Version" "marks").ok,
  (He.Fa.noat "Version" "number").ok,
  (He.Fa.noat "Version" "scale").ok,
  (He.Fa.noat "Version" "width").ok,
  (fun K => decide (PySem.W.kitOne K (.ref (He.ga K "BadVersion")) (.type "ValueError") = some true)),
  (fun K => decide (PySem.W.kitOne K (.ref (He.ga K "BadVersion")) (.ref (He.ga K "BadVersion")) = some true)),
  (fun K => decide (PySem.W.kitOne K (.ref (He.ga K "BadVersion")) (.ref (He.ga K "BadNumber")) = some false)),
  (fun K => decide (PySem.W.kitOne K (.ref (He.ga K "BadNumber")) (.type "ValueError") = some true)),
  (fun K => decide (PySem.W.kitOne K (.ref (He.ga K "BadNumber")) (.ref (He.ga K "BadVersion")) = some false)),
  (fun K => decide (PySem.W.kitOne K (.ref (He.ga K "BadNumber")) (.ref (He.ga K "BadNumber")) = some true)),
  (fun K => decide (PySem.W.kitAny K (.ref (He.ga K "BadVersion")) [.ref (He.ga K "BadCommand"), .ref (He.ga K "BadMark"), .ref (He.ga K "BadPlain"), .ref (He.ga K "BadSeed"), .ref (He.ga K "BadSheet"), .ref (He.ga K "BadStory"), .ref (He.ga K "BadText"), .ref (He.ga K "BadTree"), .ref (He.ga K "BadWord")] = some false)),
  (fun K => decide (PySem.W.kitAny K (.ref (He.ga K "BadVersion")) [.ref (He.ga K "NoRoutine"), .ref (He.ga K "NoThing"), .ref (He.ga K "TooLong"), .ref (He.ga K "TooMany"), .ref (He.ga K "Torn"), .ref (He.ga K "Unknown")] = some false)),
  (fun K => decide (PySem.W.kitAny K (.ref (He.ga K "BadNumber")) [.ref (He.ga K "BadCommand"), .ref (He.ga K "BadMark"), .ref (He.ga K "BadPlain"), .ref (He.ga K "BadSeed"), .ref (He.ga K "BadSheet"), .ref (He.ga K "BadStory"), .ref (He.ga K "BadText"), .ref (He.ga K "BadTree"), .ref (He.ga K "BadWord")] = some false)),
  (fun K => decide (PySem.W.kitAny K (.ref (He.ga K "BadNumber")) [.ref (He.ga K "NoRoutine"), .ref (He.ga K "NoThing"), .ref (He.ga K "TooLong"), .ref (He.ga K "TooMany"), .ref (He.ga K "Torn"), .ref (He.ga K "Unknown")] = some false)),
  (fun K => decide (PySem.W.exmOne K (.ref (He.ga K "BadVersion")) (.ref (He.ga K "FableError")) = some true)),
  (fun K => decide (PySem.W.exmOne K (.ref (He.ga K "BadNumber")) (.ref (He.ga K "FableError")) = some true)),
  (fun K => insB K (He.ga K "Version")),
  (fun K => tupsB K "SIZES" sizes),
  (He.Fa.mkr "Version").ok,
  (He.Fa.meth "Version" "__eq__").ok,
  (He.Fa.meth "Version" "wrap").ok,
  (He.Fa.meth "Version" "is_number").ok,
  (He.Fa.meth "Version" "bytes_of").ok,
  (He.Fa.meth "Version" "number_of").ok,
  (He.Fa.meth "Version" "work").ok,
  (He.Fa.meth "Version" "greatest").ok,
  (He.Fa.glo "is_integer").ok,
  (He.Fa.glo "within").ok,
  (He.Fa.glo "_law_bagged").ok,
  (He.Fa.glo "_law_pick").ok,
  (He.Fa.glo "_law_choice").ok,
  (He.Fa.glo "_law_integer").ok,
  (He.Fa.glo "_law_integers").ok,
  (He.Fa.glo "_law_truth").ok,
  (He.Fa.glo "_law_a_sizes").ok,
  (He.Fa.glo "_law_a_number").ok,
  (He.Fa.glo "_law_large").ok,
  (He.Fa.glo "_law_wrapped").ok,
  (He.Fa.glo "_law_worked").ok,
  (He.Fa.glo "_law_bytes").ok,
  (He.Fa.glo "_law_acts_hold").ok,
  (He.Fa.glo "_law_bytes_hold").ok,
  (He.Fa.glo "_law_bounds_hold").ok,
  (He.Fa.glo "_law_other_class").ok,
  (He.Fa.glo "_law_no_version").ok,
  (He.Fa.glo "_law_no_number").ok,
  (He.Fa.glo "_law_refusals_hold").ok,
  (He.Fa.glo "law").ok]
abbrev R : PySem.W.OpenRow := PySem.W.OpenLaw.row PySem.Challenge.rw_fablemill_k01_numbers
def file : Str := PySem.Challenge.pw_fablemill_k01_numbers.main.file
abbrev hk : PySem.W.Hook := FxH.hookX 6 file fa fn fi
def ob (s : PySem.W.SharedT) : FxH.AlX := FxH.obsXG 6 file fa fn fi (HandSHeadRun.getT s)
theorem ob_eq (s : PySem.W.SharedT) : ob s = hk.obs s.abs := FxH.obsXG_eq (HandSHeadRun.getT_eq s)
def loose : List PySem.Str := (["FableError", "BadVersion", "BadNumber", "BadText", "BadWord", "TooMany", "NoThing", "BadMark", "BadTree", "BadSheet", "BadStory", "BadSeed"] : List PySem.Str) ++ (["BadCommand", "BadPlain", "Torn", "Unknown", "TooLong", "NoRoutine", "SIZES", "is_integer", "within", "Version", "_law_bagged", "_law_pick"] : List PySem.Str) ++ (["_law_choice", "_law_integer", "_law_integers", "_law_truth", "_law_a_sizes", "_law_a_number", "_law_large", "_law_wrapped", "_law_worked", "_law_bytes", "_law_acts_hold", "_law_bytes_hold"] : List PySem.Str) ++ (["_law_bounds_hold", "_law_other_class", "_law_no_version", "_law_no_number", "_law_refusals_hold"] : List PySem.Str)
theorem run (w : World) : HandSHeadRun.RunEq R (PySem.W.view R.prog [44]) hk ob 20000 loose w := by
  intro os
  kernel_rfl
theorem facts {w : World} {K : PySem.W.Frag} {h : Heap} {mg : Str → Option Value} {f : Addr} (X : K.In h) (G : h.Ns mainGlobals mg) (hfa : mg ("law" : Str) = some (.ref f)) (c : FxH.SaysX file fa fn fi K) :
    ∃ fd : FuncData, (∀ (s : Shared) (v : Value), BindsTo s fd ⟨[v], []⟩ [("_law_script", v)]) ∧ ∀ base : Heap, K.In base → base.Ns mainGlobals mg → FnG PySem.Challenge.pw_fablemill_k01_numbers w K mg base CX0 7 f fd ["_law_script"] (spLaw K) := by
  have T : Tx PySem.Challenge.pw_fablemill_k01_numbers K mg := {
    b_ValueError := He.free_ok X G (c.fact 0),
    b_all := He.free_ok X G (c.fact 1),
    b_bool := He.free_ok X G (c.fact 2),
    b_int := He.free_ok X G (c.fact 3),
    b_isinstance := He.free_ok X G (c.fact 4),
    b_len := He.free_ok X G (c.fact 5),
    b_list := He.free_ok X G (c.fact 6),
    b_range := He.free_ok X G (c.fact 7),
    b_repr := He.free_ok X G (c.fact 8),
    b_tuple := He.free_ok X G (c.fact 9),
    b_super := He.free_ok X G (c.fact 10),
    c_SIZES := cst_ref (He.glo_ok X G (c.fact 11)),
    g_BadCommand := He.glo_ok X G (c.fact 12),
    g_BadMark := He.glo_ok X G (c.fact 13),
    g_BadNumber := He.glo_ok X G (c.fact 14),
    x_BadNumber := FxH.InD.xc (P := PySem.Challenge.pw_fablemill_k01_numbers) (d := d_BadNumber) (c.ini 0).1 (c.ini 0).2 (FOk.mk' (by decide +kernel) (by decide +kernel) (by decide +kernel) (by decide +kernel)) rfl rfl rfl rfl (bd_BadNumber) (by decide +kernel),
    e_BadNumber := FxH.excB_ok (c.fact 15),
    g_BadPlain := He.glo_ok X G (c.fact 16),
    g_BadSeed := He.glo_ok X G (c.fact 17),
    g_BadSheet := He.glo_ok X G (c.fact 18),
    g_BadStory := He.glo_ok X G (c.fact 19),
    g_BadText := He.glo_ok X G (c.fact 20),
    g_BadTree := He.glo_ok X G (c.fact 21),
    g_BadVersion := He.glo_ok X G (c.fact 22),
    x_BadVersion := FxH.InD.xc (P := PySem.Challenge.pw_fablemill_k01_numbers) (d := d_BadVersion) (c.ini 1).1 (c.ini 1).2 (FOk.mk' (by decide +kernel) (by decide +kernel) (by decide +kernel) (by decide +kernel)) rfl rfl rfl rfl (bd_BadVersion) (by decide +kernel),
    e_BadVersion := FxH.excB_ok (c.fact 23),
    g_BadWord := He.glo_ok X G (c.fact 24),
    g_FableError := He.glo_ok X G (c.fact 25),
    g_NoRoutine := He.glo_ok X G (c.fact 26),
    g_NoThing := He.glo_ok X G (c.fact 27),
    g_TooLong := He.glo_ok X G (c.fact 28),
    g_TooMany := He.glo_ok X G (c.fact 29),
    g_Torn := He.glo_ok X G (c.fact 30),
    g_Unknown := He.glo_ok X G (c.fact 31),
    g_Version := He.glo_ok X G (c.fact 32),
    cl_Version := He.cls_ok (c.fact 33),
    n_Version_cut := He.noat_ok (c.fact 34),
    n_Version_half := He.noat_ok (c.fact 35),
    n_Version_link := He.noat_ok (c.fact 36),
    n_Version_marks := He.noat_ok (c.fact 37),
    n_Version_number := He.noat_ok (c.fact 38),
    n_Version_scale := He.noat_ok (c.fact 39),
    n_Version_width := He.noat_ok (c.fact 40),
    k_BadVersion_VE := of_decide_eq_true (c.fact 41),
    k_BadVersion_BadVersion := of_decide_eq_true (c.fact 42),
    k_BadVersion_BadNumber := of_decide_eq_true (c.fact 43),
    k_BadNumber_VE := of_decide_eq_true (c.fact 44),
    k_BadNumber_BadVersion := of_decide_eq_true (c.fact 45),
    k_BadNumber_BadNumber := of_decide_eq_true (c.fact 46),
    a1_BadVersion := of_decide_eq_true (c.fact 47),
    a2_BadVersion := of_decide_eq_true (c.fact 48),
    a1_BadNumber := of_decide_eq_true (c.fact 49),
    a2_BadNumber := of_decide_eq_true (c.fact 50),
    m_BadVersion := of_decide_eq_true (c.fact 51),
    m_BadNumber := of_decide_eq_true (c.fact 52),
    i_Version := c.fact 53,
    t_SIZES := c.fact 54 }
  obtain ⟨fd0, F0⟩ := c.def_ 0 (d := d_f_Version_MU_initU) rfl
  obtain ⟨fd1, F1⟩ := c.def_ 1 (d := d_f_Version_MU_eqU) rfl
  obtain ⟨fd2, F2⟩ := c.def_ 2 (d := d_f_Version_M_wrap) rfl
  obtain ⟨fd3, F3⟩ := c.def_ 3 (d := d_f_Version_M_is_number) rfl
  obtain ⟨fd4, F4⟩ := c.def_ 4 (d := d_f_Version_M_bytes_of) rfl
  obtain ⟨fd5, F5⟩ := c.def_ 5 (d := d_f_Version_M_number_of) rfl
  obtain ⟨fd6, F6⟩ := c.def_ 6 (d := d_f_Version_M_work) rfl
  obtain ⟨fd7, F7⟩ := c.def_ 7 (d := d_f_Version_M_greatest) rfl
  obtain ⟨fd8, F8⟩ := c.def_ 8 (d := d_f_is_integer) rfl
  have S_is_integer : Src K mg "is_integer" s_is_integer := ⟨_, fd8, He.glo_ok X G (c.fact 63), F8⟩
  obtain ⟨fd9, F9⟩ := c.def_ 9 (d := d_f_within) rfl
  have S_within : Src K mg "within" s_within := ⟨_, fd9, He.glo_ok X G (c.fact 64), F9⟩
  obtain ⟨fd10, F10⟩ := c.def_ 10 (d := d_f__law_bagged) rfl
  have S__law_bagged : Src K mg "_law_bagged" s__law_bagged := ⟨_, fd10, He.glo_ok X G (c.fact 65), F10⟩
  obtain ⟨fd11, F11⟩ := c.def_ 11 (d := d_f__law_pick) rfl
  have S__law_pick : Src K mg "_law_pick" s__law_pick := ⟨_, fd11, He.glo_ok X G (c.fact 66), F11⟩
  obtain ⟨fd12, F12⟩ := c.def_ 12 (d := d_f__law_choice) rfl
  have S__law_choice : Src K mg "_law_choice" s__law_choice := ⟨_, fd12, He.glo_ok X G (c.fact 67), F12⟩
  obtain ⟨fd13, F13⟩ := c.def_ 13 (d := d_f__law_integer) rfl
  have S__law_integer : Src K mg "_law_integer" s__law_integer := ⟨_, fd13, He.glo_ok X G (c.fact 68), F13⟩
  obtain ⟨fd14, F14⟩ := c.def_ 14 (d := d_f__law_integers) rfl
  have S__law_integers : Src K mg "_law_integers" s__law_integers := ⟨_, fd14, He.glo_ok X G (c.fact 69), F14⟩
  obtain ⟨fd15, F15⟩ := c.def_ 15 (d := d_f__law_truth) rfl
  have S__law_truth : Src K mg "_law_truth" s__law_truth := ⟨_, fd15, He.glo_ok X G (c.fact 70), F15⟩
  obtain ⟨fd16, F16⟩ := c.def_ 16 (d := d_f__law_a_sizes) rfl
  have S__law_a_sizes : Src K mg "_law_a_sizes" s__law_a_sizes := ⟨_, fd16, He.glo_ok X G (c.fact 71), F16⟩
  obtain ⟨fd17, F17⟩ := c.def_ 17 (d := d_f__law_a_number) rfl
  have S__law_a_number : Src K mg "_law_a_number" s__law_a_number := ⟨_, fd17, He.glo_ok X G (c.fact 72), F17⟩
  obtain ⟨fd18, F18⟩ := c.def_ 18 (d := d_f__law_large) rfl
  have S__law_large : Src K mg "_law_large" s__law_large := ⟨_, fd18, He.glo_ok X G (c.fact 73), F18⟩
  obtain ⟨fd19, F19⟩ := c.def_ 19 (d := d_f__law_wrapped) rfl
  have S__law_wrapped : Src K mg "_law_wrapped" s__law_wrapped := ⟨_, fd19, He.glo_ok X G (c.fact 74), F19⟩
  obtain ⟨fd20, F20⟩ := c.def_ 20 (d := d_f__law_worked) rfl
  have S__law_worked : Src K mg "_law_worked" s__law_worked := ⟨_, fd20, He.glo_ok X G (c.fact 75), F20⟩
  obtain ⟨fd21, F21⟩ := c.def_ 21 (d := d_f__law_bytes) rfl
  have S__law_bytes : Src K mg "_law_bytes" s__law_bytes := ⟨_, fd21, He.glo_ok X G (c.fact 76), F21⟩
  obtain ⟨fd22, F22⟩ := c.def_ 22 (d := d_f__law_acts_hold) rfl
  have S__law_acts_hold : Src K mg "_law_acts_hold" s__law_acts_hold := ⟨_, fd22, He.glo_ok X G (c.fact 77), F22⟩
  obtain ⟨fd23, F23⟩ := c.def_ 23 (d := d_f__law_bytes_hold) rfl
  have S__law_bytes_hold : Src K mg "_law_bytes_hold" s__law_bytes_hold := ⟨_, fd23, He.glo_ok X G (c.fact 78), F23⟩
  obtain ⟨fd24, F24⟩ := c.def_ 24 (d := d_f__law_bounds_hold) rfl
  have S__law_bounds_hold : Src K mg "_law_bounds_hold" s__law_bounds_hold := ⟨_, fd24, He.glo_ok X G (c.fact 79), F24⟩
  obtain ⟨fd25, F25⟩ := c.def_ 25 (d := d_f__law_other_class) rfl
  have S__law_other_class : Src K mg "_law_other_class" s__law_other_class := ⟨_, fd25, He.glo_ok X G (c.fact 80), F25⟩
  obtain ⟨fd26, F26⟩ := c.def_ 26 (d := d_f__law_no_version) rfl
  have S__law_no_version : Src K mg "_law_no_version" s__law_no_version := ⟨_, fd26, He.glo_ok X G (c.fact 81), F26⟩
  obtain ⟨fd27, F27⟩ := c.def_ 27 (d := d_f__law_no_number) rfl
  have S__law_no_number : Src K mg "_law_no_number" s__law_no_number := ⟨_, fd27, He.glo_ok X G (c.fact 82), F27⟩
  obtain ⟨fd28, F28⟩ := c.def_ 28 (d := d_f__law_refusals_hold) rfl
  have S__law_refusals_hold : Src K mg "_law_refusals_hold" s__law_refusals_hold := ⟨_, fd28, He.glo_ok X G (c.fact 83), F28⟩
  obtain ⟨fd, F⟩ := c.def_ 29 (d := d_f_law) rfl
  have e := hfa.symm.trans (He.glo_ok X G (c.fact 84 (f := (He.Fa.glo "law").ok) rfl))
  cases e
  have b := FunD.bindsA (ps := ["_law_script"]) F fun _ _ _ _ _ _ us hl => match us, hl with | [_], _ => rfl
  refine ⟨fd, fun s v => b s [v] rfl, fun base hK hG => ?_⟩
  have C_is_integer : Cal PySem.Challenge.pw_fablemill_k01_numbers w K mg base CX0 1 "is_integer" ["thing", "low", "high"] spIsInt := ok_is_integer S_is_integer T 
  have C_Version_MU_initU : CalI PySem.Challenge.pw_fablemill_k01_numbers w K mg base (L2.CX PySem.Challenge.pw_fablemill_k01_numbers w) 3 (He.ga K "Version") ["self", "version"] (spVer K) := ok_Version_MU_initU F0 (He.mkr_ok (c.fact 55)) T C_is_integer
  have C_Version_MU_eqU : CalM PySem.Challenge.pw_fablemill_k01_numbers w K mg base CX0 1 (He.ga K "Version") "__eq__" ["self", "other"] (spVEq K) := ok_Version_MU_eqU F1 (He.meth_ok (c.fact 56)) T 
  have C_Version_M_wrap : CalM PySem.Challenge.pw_fablemill_k01_numbers w K mg base CX0 1 (He.ga K "Version") "wrap" ["self", "integer"] (spWrap K) := ok_Version_M_wrap F2 (He.meth_ok (c.fact 57)) T 
  have C_Version_M_is_number : CalM PySem.Challenge.pw_fablemill_k01_numbers w K mg base CX0 2 (He.ga K "Version") "is_number" ["self", "thing"] (spIsNum K) := ok_Version_M_is_number F3 (He.meth_ok (c.fact 58)) T C_is_integer
  have C_Version_M_bytes_of : CalM PySem.Challenge.pw_fablemill_k01_numbers w K mg base (L2.CX PySem.Challenge.pw_fablemill_k01_numbers w) 3 (He.ga K "Version") "bytes_of" ["self", "number"] (spBytes K) := ok_Version_M_bytes_of F4 (He.meth_ok (c.fact 59)) T C_Version_M_is_number
  have C_Version_M_number_of : CalM PySem.Challenge.pw_fablemill_k01_numbers w K mg base CX0 2 (He.ga K "Version") "number_of" ["self", "row"] (spNumOf K) := ok_Version_M_number_of F5 (He.meth_ok (c.fact 60)) T C_Version_M_wrap
  have C_Version_M_work : CalM PySem.Challenge.pw_fablemill_k01_numbers w K mg base CX0 2 (He.ga K "Version") "work" ["self", "op", "a", "b"] (spWork K) := ok_Version_M_work F6 (He.meth_ok (c.fact 61)) T C_Version_M_wrap
  have C_Version_M_greatest : CalM PySem.Challenge.pw_fablemill_k01_numbers w K mg base CX0 1 (He.ga K "Version") "greatest" ["self", "bound"] (spGreat K) := ok_Version_M_greatest F7 (He.meth_ok (c.fact 62)) T 
  have C_within : Cal PySem.Challenge.pw_fablemill_k01_numbers w K mg base CX0 1 "within" ["bound", "number"] spWithin := ok_within S_within T 
  have C__law_bagged : Cal PySem.Challenge.pw_fablemill_k01_numbers w K mg base CX0 1 "_law_bagged" ["_law_script"] (spBag K) := ok__law_bagged S__law_bagged T 
  have C__law_pick : Cal PySem.Challenge.pw_fablemill_k01_numbers w K mg base CX0 1 "_law_pick" ["_law_bag", "_law_many"] spPick := ok__law_pick S__law_pick T 
  have C__law_choice : Cal PySem.Challenge.pw_fablemill_k01_numbers w K mg base CX0 2 "_law_choice" ["_law_bag", "_law_things"] spChoice := ok__law_choice S__law_choice T C__law_pick
  have C__law_integer : Cal PySem.Challenge.pw_fablemill_k01_numbers w K mg base CX0 1 "_law_integer" ["_law_thing"] spInteger := ok__law_integer S__law_integer T 
  have C__law_integers : Cal PySem.Challenge.pw_fablemill_k01_numbers w K mg base CX0 2 "_law_integers" ["_law_actual", "_law_due"] spInts := ok__law_integers S__law_integers T C__law_integer
  have C__law_truth : Cal PySem.Challenge.pw_fablemill_k01_numbers w K mg base CX0 1 "_law_truth" ["_law_actual", "_law_due"] spTruth := ok__law_truth S__law_truth T 
  have C__law_a_sizes : Cal PySem.Challenge.pw_fablemill_k01_numbers w K mg base CX0 1 "_law_a_sizes" ["_law_which"] spSizes := ok__law_a_sizes S__law_a_sizes T 
  have C__law_a_number : Cal PySem.Challenge.pw_fablemill_k01_numbers w K mg base CX0 3 "_law_a_number" ["_law_bag", "_law_half"] spANum := ok__law_a_number S__law_a_number T C__law_pick C__law_choice
  have C__law_large : Cal PySem.Challenge.pw_fablemill_k01_numbers w K mg base CX0 2 "_law_large" ["_law_bag", "_law_half"] spLarge := ok__law_large S__law_large T C__law_pick
  have C__law_wrapped : Cal PySem.Challenge.pw_fablemill_k01_numbers w K mg base CX0 1 "_law_wrapped" ["_law_half", "_law_number"] spLWrap := ok__law_wrapped S__law_wrapped T 
  have C__law_worked : Cal PySem.Challenge.pw_fablemill_k01_numbers w K mg base CX0 2 "_law_worked" ["_law_half", "_law_op", "_law_a", "_law_b"] spLWork := ok__law_worked S__law_worked T C__law_wrapped
  have C__law_bytes : Cal PySem.Challenge.pw_fablemill_k01_numbers w K mg base CX0 1 "_law_bytes" ["_law_sizes", "_law_number"] spLBytes := ok__law_bytes S__law_bytes T 
  have C__law_acts_hold : Cal PySem.Challenge.pw_fablemill_k01_numbers w K mg base CX0 4 "_law_acts_hold" ["_law_bag", "_law_told", "_law_sizes"] (spActs K) := ok__law_acts_hold S__law_acts_hold T C__law_a_number C__law_pick C__law_choice C_Version_M_work C__law_worked C__law_integers
  have C__law_bytes_hold : Cal PySem.Challenge.pw_fablemill_k01_numbers w K mg base CX0 4 "_law_bytes_hold" ["_law_bag", "_law_told", "_law_sizes"] (spActs K) := ok__law_bytes_hold S__law_bytes_hold T C__law_a_number C__law_bytes C_Version_M_bytes_of C__law_integers C_Version_M_number_of C__law_pick C__law_choice C__law_wrapped
  have C__law_bounds_hold : Cal PySem.Challenge.pw_fablemill_k01_numbers w K mg base CX0 4 "_law_bounds_hold" ["_law_bag", "_law_told", "_law_sizes"] (spActs K) := ok__law_bounds_hold S__law_bounds_hold T C__law_pick C__law_choice C_Version_M_greatest C__law_integers C__law_a_number C_within C__law_truth C__law_large C_Version_M_wrap C__law_wrapped C_Version_M_is_number
  have C__law_other_class : CalE PySem.Challenge.pw_fablemill_k01_numbers w K mg base 1 "_law_other_class" ["_law_e"] (spOC K) := ok__law_other_class S__law_other_class T 
  have C__law_no_version : CalG PySem.Challenge.pw_fablemill_k01_numbers w K mg base CX0 5 "_law_no_version" ["_law_thing"] (spNoV K) := ok__law_no_version S__law_no_version T C_Version_MU_initU C__law_other_class
  have C__law_no_number : CalG PySem.Challenge.pw_fablemill_k01_numbers w K mg base CX0 4 "_law_no_number" ["_law_told", "_law_thing"] (spNoN K) := ok__law_no_number S__law_no_number T C_Version_M_bytes_of C__law_other_class
  have C__law_refusals_hold : CalG PySem.Challenge.pw_fablemill_k01_numbers w K mg base CX0 6 "_law_refusals_hold" ["_law_bag", "_law_told", "_law_half"] (spRef K) := ok__law_refusals_hold S__law_refusals_hold T C__law_pick C__law_no_version C__law_no_number
  exact ok_law F T C__law_bagged C__law_pick C_Version_MU_initU C__law_a_sizes C__law_integers C__law_acts_hold C__law_bytes_hold C__law_bounds_hold C__law_refusals_hold C_Version_MU_eqU C__law_truth
end K01
open PySem PySem.W PySem.Calls PyProof.Rows
theorem PySem.Challenge.cw_fablemill_k01_numbers_holds : PySem.Challenge.rw_fablemill_k01_numbers.Holds := by
  w_on; o_law
  refine HandSHeadRun.head_any (r := OpenLaw.row PySem.Challenge.rw_fablemill_k01_numbers) (q := view (OpenLaw.row PySem.Challenge.rw_fablemill_k01_numbers).prog [44]) (H := K01.hk) (ob := K01.ob) (M := 20000) (loose := K01.loose) (d := HandSHeadRun.topDef (OpenLaw.row PySem.Challenge.rw_fablemill_k01_numbers).prog 44) (kwd := []) K01.ob_eq
    (by kernel_rfl) (fun s => by kernel_rfl) K01.run (by kernel_rfl) (by kernel_rfl) (by kernel_rfl) (by rfl) (by first | assumption | decide +kernel) (by decide +kernel) ⟨rfl, rfl, rfl, rfl, rfl, by decide +kernel⟩ ?hw ?hc
  case hw => w_witness2
  case hc =>
    refine Fx.walk_ofG (l := PySem.Challenge.rw_fablemill_k01_numbers) (n := 63) (k := 7) (x := "_law_script") rfl (by decide) (by kernel_rfl) ⟨rfl, by decide, by decide⟩ ?F
    intro w mg fa h Y G hmg0
    obtain ⟨K, KX, c⟩ := Y
    have hmg : mg ("law" : PySem.Str) = some (.ref fa) := by
      have e : (HandSHeadRun.topDef (OpenLaw.row PySem.Challenge.rw_fablemill_k01_numbers).prog 44).name = ("law" : PySem.Str) := by kernel_rfl
      rw [← e]
      exact hmg0
    obtain ⟨fd, hb, hF⟩ := K01.facts (w := w) KX G hmg c
    exact ⟨K, fd, (K01.spLaw K), KX, hb, fun H a ns hl hS => ⟨a, ns, rfl, hS, Nat.le_trans hl (by decide), fun _ => rfl⟩, hF⟩
