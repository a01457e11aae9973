import PyProof.Rows.All
import Wide.All
import OpenK.AllK
import Wide.FinOn
import KE.KStateDown
import KE.KExcSuper
import Lean
import HandS.ForMost
import HandS.ForExc
import HandS.ExcInit
import HandS.ExcSuper
import HandS.ExcField
import HandS.ExcIs
import HandS.IsInst
import HandS.Defaults
import HandS.Replace
import HandS.ReplaceLit
import HandS.ReplaceDef
import HandS.Head0
import HandS.Head1
import HandS.Head2
import HandS.HeadEnd
import HandS.HeadHook1
import HandS.HeadHook2
import HandS.Wide
import HandS.WideBits
import KE.GoesMore
import HandS.More
import HandS.TupAny
import HandS.Ends
import PyProof.ReprRoads
import PyProof.CallFns
import HandS.TupLe
import HandS.StrMore
import PyProof.Rows.StrPadFill
import PyProof.Rows.StrPadWhole
import PySem.Challenge.RW_fablemill_k10_cut_forms
set_option Elab.async false
set_option linter.all false
set_option maxRecDepth 100000
set_option maxHeartbeats 4000000
/-! Own errors of the shape: class C(FableError): def __init__(self, f): super().__init__('..'); self.f = f -/
namespace Fx
open PySem PySem.W PySem.Calls PyProof.Rows PySem.HandSPX
/-- the text of such an __init__ -/
def xA (f : Str) (p1 p2 : Pos) : Arguments := { posonlyargs := [], args := [{ arg := "self", annotation := none, pos := p1 }, { arg := f, annotation := none, pos := p2 }], vararg := none, kwonlyargs := [], kw_defaults := [], kwarg := none, defaults := [] }
def xB (f m : Str) (q1 q2 q3 q4 q5 q6 q7 q8 q9 q10 : Pos) : List Stmt :=
  [.Expr (.Call (.Attribute (.Call (.Name "super" q1) [] [] q2) "__init__" q3) [.Constant (.str m) 0 q4] [] q5) q6,
   .Assign [.Attribute (.Name "self" q7) f q8] (.Name f q9) q10]
def xS (f : Str) : Scope := { kind := .function, names := [(PySem.Str.ofString "self", .local), (f, .local), (PySem.Str.ofString "__class__", .free), (PySem.Str.ofString "super", .globalImplicit)], isGenerator := false, isCoroutine := false, more := [] }
/-- a field's name that does not clash -/
structure FOk (f : Str) : Prop where
  ns : f ≠ "self"
  nc : f ≠ "__class__"
  nu : f ≠ "super"
  nd : (f == ("__debug__" : Str)) = false
theorem FOk.mk' {f : Str} (h1 : decide (f ≠ "self") = true) (h2 : decide (f ≠ "__class__") = true) (h3 : decide (f ≠ "super") = true) (h4 : (f == ("__debug__" : Str)) = false) : FOk f :=
  ⟨of_decide_eq_true h1, of_decide_eq_true h2, of_decide_eq_true h3, h4⟩
/-- what the written part says of the class at C, its name x, its field f -/
structure XC (K : Frag) (P : Program) (x f : Str) (C : Addr) : Prop where
  fo : FOk f
  cls : ∃ nm q N bs bm sn sub ab col dd k0 k1 k2 k3 k5, K.lookup C = some (excClassObj nm q C N bs bm true sn sub ab col dd k0 k1 k2 k3 k5 "ValueError.__new__") ∧ refsVE bm = true ∧ alongIn K "__init__" bm = some (some (.builtin "ValueError.__init__"))
  sa : findIn K (.ref C) "__setattr__" = some (some (.builtin "object.__setattr__"))
  ga : findIn K (.ref C) "__getattribute__" = some (some (.builtin "BaseException.__getattribute__"))
  gg : findIn K (.ref C) "__getattr__" = some none
  noF : findIn K (.ref C) f = some none
  kC : keepIn K (.ref C) = true
  exC : subIn K (.ref C) (.type "BaseException") = some true
  veC : subIn K (.ref C) (.type "ValueError") = some true
  tyC : typeIn K (.ref C) = some (.type "type")
  hdC : hasDictIn K C = true
  op : nsIn K cStatics "thirdparty.any" = some none
  init : ∃ (fI : Addr), findIn K (.ref C) "__init__" = some (some (.ref fI)) ∧ typeIn K (.ref fI) = some (.type "function") ∧
    ∃ (qual m : Str) (oc : Value) (od : Option Addr) (kV doc pm : Value) (an : Option Addr) (cda cc : Addr) (ct : Value) (osl : Array (Option Value)) (p1 p2 q1 q2 q3 q4 q5 q6 q7 q8 q9 q10 : Pos)
      (ccl : Value) (cdd : Option Addr) (vs : Array Value) (ccs : Array (Option Value)) (tf : Tok) (cl : Value) (cld : Option Addr) (csl : Array (Option Value)),
      K.lookup fI = some ⟨oc, od, .func (ksFn "__init__" qual (xA f p1 p2) (xB f m q1 q2 q3 q4 q5 q6 q7 q8 q9 q10) (xS f) .none kV doc pm an (.ref cda) ct cc), osl⟩ ∧ codeIn K (.ref cda) qual = true ∧
      K.lookup cda = some ⟨ccl, cdd, .fields vs, ccs⟩ ∧ vs[2]? = some (.str (P.main.file : Str) tf) ∧ K.lookup cc = some ⟨cl, cld, .cell (some (.ref C)), csl⟩ ∧ (q3.endLine == q5.line) = true
  bd : ∀ (fd : FuncData) (p1 p2 : Pos), fd.params = xA f p1 p2 → fd.defaults = .none → ∀ (u1 u2 : Value), bindArgs fd ⟨[u1, u2], []⟩ = pure [(("self" : Str), u1), (f, u2)]
  top : (P.main.scope.names.lookup ("super" : Str)).isSome = false
section
variable {f : Str} (F : FOk f)
include F
theorem look_self : (xS f).names.lookup ("self" : Str) = some .local := by simp [xS, List.lookup]
theorem look_f : (xS f).names.lookup f = some .local := by
  have h1 : (f == PySem.Str.ofString "self") = false := by simpa using F.ns
  simp [xS, List.lookup, h1]
theorem look_cls : (xS f).names.lookup ("__class__" : Str) = some .free := by
  have h1 : (("__class__" : Str) == f) = false := by simpa using (Ne.symm F.nc)
  have h2 : (("__class__" : Str) == PySem.Str.ofString "self") = false := by decide
  simp [xS, List.lookup, h1, h2]
theorem look_sup : (xS f).names.lookup ("super" : Str) = some .globalImplicit := by
  have h1 : (("super" : Str) == f) = false := by simpa using (Ne.symm F.nu)
  have h2 : (("super" : Str) == PySem.Str.ofString "self") = false := by decide
  have h3 : (("super" : Str) == PySem.Str.ofString "__class__") = false := by decide
  simp [xS, List.lookup, h1, h2, h3]
end
section
variable {prog : Program} {w : World} {A : Around} {E : Value → Shared → Prop} {h : Heap} {g : Array GenState} {d : Drawn} {t : Nat} {os : OsState}
variable {nm q : Str} {C N : Addr} {bs bm : List Value} {hdct : Bool} {sn : List Str} {sub : List Value} {ab : Bool} {col : Option Bool} {dd : Option Addr} {k0 k1 k2 k3 k5 : Option Value}
theorem boot_super : bootBuiltins ("super" : Str) = some (.type "super") := by first | boot_by_name | kernel_rfl
/-- super().__init__(..) called -/
theorem call_mw {u e t0 : Addr} {rest : List Value} {Q : Value → Shared → Prop}
    (hC : h.get? C = some (excClassObj nm q C N bs bm hdct sn sub ab col dd k0 k1 k2 k3 k5 "ValueError.__new__")) (he : h.get? e = some (excO C t0)) (hu : h.get? u = some (kxs_mw "ValueError.__init__" e)) (hrest : rest.length ≤ sizeLine)
    (hq : ∀ h' t1, (∀ b o, b ≠ e → h.get? b = some o → h'.get? b = some o) → h'.get? e = some (excO C t1) → Q .none ⟨h', g, d, t, os⟩) :
    wpAny (model prog w) A (call (.ref u) rest) Q E ⟨h, g, d, t, os⟩ := by
  refine wpAny_call (codeAny_of_tree ?_)
  show wpAny _ A.in1 (callAny (.ref u) ⟨rest, []⟩) _ _ _
  simp only [callAny]
  refine wpAny_bind (wpAny_load hu ?_)
  simp only [kxs_mw, show (Value.type "method-wrapper" == Value.type "method" || Value.type "method-wrapper" == Value.type "builtin_function_or_method" || Value.type "method-wrapper" == Value.type "method-wrapper") = true by decide, if_true]
  refine KFB.if_so (by decide) ?_
  refine wpAny_bind (ESX.check_bound F.excBase_ValueError hC he rfl ?_)
  refine wpAny_bind (wpAny_pure (wpAny_pure ?_))
  refine ⟨Code.quiet_builtin _ (by decide +kernel), codeAny_builtin F.excBase_ValueError.initEntry ?_⟩
  rw [Around.under_plainId F.excBase_ValueError.init.plain _]
  wp_walk
  refine hq _ h.objs.size (fun b o hb ho => ?_) ?_
  · rw [Heap.get?_update_other _ _ (Ne.symm hb)]
    exact Heap.get?_push_of_some _ ho
  · rw [Heap.get?_update_self _ (Heap.get?_push_of_some _ he) rfl]
    rfl
end
theorem he_sup {env : Env} {m : Str} {q1 q2 q3 q4 q5 : Pos} (hp : (q3.endLine == q5.line) = true) :
    eval (.Call (.Attribute (.Call (.Name "super" q1) [] [] q2) "__init__" q3) [.Constant (.str m) 0 q4] [] q5) env = (do
      let ov ← attributeBase (.Call (.Name "super" q1) [] [] q2) "__init__" env (eval (.Call (.Name "super" q1) [] [] q2) env)
      standAt q3.atName
      let (f, first) ← holding [ov] (getMethod ov "__init__" (do return (← importBound (.Call (.Name "super" q1) [] [] q2) env).getD true))
      callWith q5 f first (backTo q5 (starEach [.Constant (.str m) 0 q4] env)) []) := by
  rw [arm_eval_Call]
  unfold methodCall methodCallPos
  simp only [hp, Bool.or_true, if_true]
  rfl
/-- what __init__ leaves of a fresh exception at x -/
structure InitEnd (h h' : Heap) (x C dx t1 : Addr) (f : Str) (v : Value) : Prop where
  keep : ∀ b o, b ≠ x → h.get? b = some o → h'.get? b = some o
  obj : h'.get? x = some { cls := .ref C, dict := some dx, data := .fields #[.ref t1, .none, .none, .none, .bool false, .none] }
  dbig : h.objs.size ≤ dx
  dne : dx ≠ x
  ns : h'.Ns1 dx (fun y => if y = f then some v else none)
/-- a made exception -/
structure OwnMade (h h' : Heap) (e C d : Addr) (f : Str) (v : Value) : Prop where
  keep : ∀ b o, h.get? b = some o → h'.get? b = some o
  new : h.objs.size ≤ e
  obj : ∃ oe vs, h'.get? e = some oe ∧ oe.cls = .ref C ∧ oe.dict = some d ∧ oe.data = .fields vs ∧ vs[1]? = some .none
  dbig : h.objs.size ≤ d
  dne : d ≠ e
  ns : h'.Ns1 d (fun y => if y = f then some v else none)
section
variable {prog : Program} {w : World} {A : Around} {E : Value → Shared → Prop} {R : Result → Shared → Prop} {s : Shared} {K : Frag} {mg mb : Str → Option Value} {x0 f : Str} {C : Addr}
theorem one_size (v : Value) : [v].length ≤ sizeLine := by
  rw [sizeLine_eq]
  exact (by decide : 1 ≤ 16777216)
theorem fx_init (T : XC K prog x0 f C) {fI : Addr} (hfI : findIn K (.ref C) "__init__" = some (some (.ref fI))) {x t0 : Addr} {v : Value} (X : K.In s.heap) (G : s.heap.Ns mainGlobals mg) (hsu : mg "super" = none) (B : s.heap.Ns builtinsNs mb) (hsb : mb "super" = bootBuiltins "super")
    (hlim : s.heap.NoLimit) (hx : s.heap.get? x = some (excO C t0)) (hnx : K.lookup x = none) (hroom : A.depth < recursionLimit)
    (hq : ∀ h' tk dx t1, InitEnd s.heap h' x C dx t1 f v → R (.ok (.ret .none)) { s with heap := h', toks := tk }) :
    codeAny (model prog w) A (.call (.ref fI) ⟨[.ref x, v], []⟩) R s := by
  obtain ⟨fI', e1, htI, qual, m, oc, od, kV, doc, pm, an, cda, cc, ct, osl, p1, p2, q1, q2, q3, q4, q5, q6, q7, q8, q9, q10, ccl, cdd, vs, ccs, tf, cl, cld, csl, ho, hcd, hcode, hvs, hcell, hps⟩ := T.init
  rw [hfI] at e1
  cases e1
  obtain ⟨nm, q, N, bs, bm, sn, sub, ab, col, dd, k0, k1, k2, k3, k5, hC, hbm, hal⟩ := T.cls
  have hcl : clsIn K C = some { name := nm, bases := bs, mro := .ref C :: bm, ns := N, qualname := q, hasDict := true, slotNames := sn, subclasses := sub, abstract := ab, collection := col, hasDel := false } := by unfold clsIn; rw [hC] <;> rfl
  refine ks_codeAny_call_defAt (fd := ksFn "__init__" qual (xA f p1 p2) (xB f m q1 q2 q3 q4 q5 q6 q7 q8 q9 q10) (xS f) .none kV doc pm an (.ref cda) ct cc) (body := xB f m q1 q2 q3 q4 q5 q6 q7 q8 q9 q10) (binds := [("self", .ref x), (f, v)]) hroom (X _ _ ho) rfl hlim (codeRec_of X hcd) rfl
    (BindsTo.of_eq (T.bd _ p1 p2 rfl rfl _ _)) ?_ ?_ (fun h₁ hns k => ?_)
  · intro y hy
    simp only [xS, List.mem_cons, List.not_mem_nil, or_false] at hy
    rcases hy with rfl | rfl | rfl | rfl <;> simp
  · intro y hy
    simp only [List.mem_cons, List.not_mem_nil, or_false] at hy
    rcases hy with rfl | rfl
    · exact look_self T.fo
    · exact look_f T.fo
  · have X1 : K.In h₁ := X.keeps k
    have hx1 := k _ _ hx
    have hC1 := X1 _ _ hC
    refine ks_wpAt_execs_cons (ks_wpAt_Expr_any (ks_wpAt_MethodCall ?_ (he_sup hps)))
    refine ks_wpAt_super_base (look_sup T.fo) (look_cls T.fo) (by decide) rfl (X1 _ _ ho) rfl rfl rfl (X1 _ _ hcode) rfl hvs (by simp) T.top ?_
    refine ks_loadName_global rfl (look_sup T.fo) (loadGlobal_builtin (G.keeps k) hsu (B.keeps k) (hsb.trans boot_super) ⟨rfl, ?_⟩)
    refine wpAny_loadName_free rfl (look_cls T.fo) rfl ⟨_, X1 _ _ hcell, rfl⟩ ?_
    refine wpAny_loadName_local rfl (look_self T.fo) hns (v := .ref x) ?_ ?_
    · have h1 : (("self" : Str) == f) = false := by simpa using (Ne.symm T.fo.ns)
      simp [List.lookup, h1]
    refine ks_wpAny_isType_cls hC1 rfl ⟨rfl, ?_⟩
    have hsub : mroIn K C (.ref C) = some true := by
      unfold mroIn
      rw [hcl]
      simp
    refine ks_wpAny_call_super hC1 rfl hx1 rfl (fun c e => by cases e) (looks_mroIn X1 hsub) (fun h2 hso k2 => ?_)
    have X2 : K.In h2 := X1.keeps k2
    have hx2 := k2 _ _ hx1
    have hxC : x ≠ C := fun e => by
      rw [e, hC1] at hx1
      cases hx1
    have I2 : InstAt h2 x (excO C t0) C none := ⟨hx2, rfl, rfl, trivial⟩
    refine kxs_getMethod kxs_ValueError hso (looks_opaque X2 T.op) (l₀ := .ref C :: bm) ?_ (ESX.drop_own C bm) X2 hal (I2.type.andThen (looks_subIn X2 T.veC)) hxC (by decide) ?_
    · exact fun A Q E s k q => wpAny_bind ((looks_clsIn X2 hcl) A _ E s k (wpAny_pure q))
    have kp : ∀ b o, h2.get? b = some o → (h2.push (kxs_mw "ValueError.__init__" x)).get? b = some o := fun b o e => Heap.get?_push_of_some _ e
    have hu : (h2.push (kxs_mw "ValueError.__init__" x)).get? h2.objs.size = some (kxs_mw "ValueError.__init__" x) := Heap.get?_push_at rfl rfl
    refine kxs_callWith (i := "ValueError.__init__") (x := x) rfl (evalArgs_plain (spliced_cons (Constant_str (k := 0) (pos := q4) (spliced_nil ⟨hu, ?_⟩))))
    refine call_mw (kp _ _ (X2 _ _ hC)) (kp _ _ hx2) hu (one_size _) (fun h3 t1 k3 hx3 => ?_)
    have kk : ∀ b o, b ≠ x → h₁.get? b = some o → h3.get? b = some o := fun b o hb e => k3 b o hb (kp _ _ (k2 _ _ e))
    have X3 : K.In h3 := fun a o e => kk a o (fun z => by rw [z, hnx] at e; cases e) (X1 a o e)
    have nL : s.heap.objs.size ≠ x := Nat.ne_of_gt (Heap.lt_size hx)
    have hns3 : h3.Ns s.heap.objs.size (fun y => [(("self" : Str), Value.ref x), (f, v)].reverse.lookup y) := by
      obtain ⟨oL, es, ep, hL, r⟩ := hns
      exact ⟨oL, es, ep, kk _ _ nL hL, r⟩
    have hfs : (f == ("self" : Str)) = false := by simpa using T.fo.ns
    have hsf : (("self" : Str) == f) = false := by simpa using (Ne.symm T.fo.ns)
    show PySem.wpAt _ _ _ (execs _ _) _ _ _
    refine ks_wpAt_execs_cons (ks_wpAt_Assign_Attr (PySem.wpAt_of_wpAny ?_))
    refine wpAny_Name (wpAny_loadName_local rfl (look_f T.fo) hns3 (v := v) (by simp [List.lookup]) ?_) T.fo.nd
    refine wpAny_Name (wpAny_loadName_local rfl (look_self T.fo) hns3 (v := .ref x) (by simp [List.lookup, hsf]) ?_) (by decide)
    refine set_plain X3 (ox := excO C t1) (od := none) ⟨hx3, rfl, rfl, trivial⟩ T.sa ?_
    refine exc_osa X3 hx3 hcl (show refsVE (.ref C :: bm) = true from hbm) rfl T.noF (fun h4 tk4 dx k4 dn dne hx4 hn4 => ?_)
    show PySem.wpAt _ _ _ (execs _ _) _ _ _
    refine PySem.wpAt_of_wpAny (wpAny_execs_nil (hq h4 tk4 dx t1 ⟨fun b o hb e => k4 b o hb (kk b o hb (k b o e)), hx4, ?_, dne, hn4⟩))
    exact Nat.le_of_lt (Nat.lt_of_lt_of_le (show s.heap.objs.size < h3.objs.size from hns3.lt) dn)
theorem fx_made (T : XC K prog x0 f C) {v : Value} (X : K.In s.heap) (G : s.heap.Ns mainGlobals mg) (hsu : mg "super" = none) (B : s.heap.Ns builtinsNs mb) (hsb : mb "super" = bootBuiltins "super") (hlim : s.heap.NoLimit) (hroom : A.depth + 1 < recursionLimit)
    (hq : ∀ h' tk e d, OwnMade s.heap h' e C d f v → R (.ok (.ret (.ref e))) { s with heap := h', toks := tk }) :
    codeAny (model prog w) A (.call (.ref C) ⟨[v], []⟩) R s := by
  obtain ⟨fI, hfI, htI, _⟩ := T.init
  obtain ⟨nm, q, N, bs, bm, sn, sub, ab, col, dd, k0, k1, k2, k3, k5, hC, hbm, hal⟩ := T.cls
  obtain ⟨hp, g, dr, tk, os⟩ := s
  have k : ∀ b o, hp.get? b = some o → ((hp.push (kdv_tup [v])).push (excO C hp.objs.size)).get? b = some o := fun b o e => Heap.get?_push_of_some _ (Heap.get?_push_of_some _ e)
  have hget : ((hp.push (kdv_tup [v])).push (excO C hp.objs.size)).get? (hp.objs.size + 1) = some (excO C hp.objs.size) := by heap_get
  have hnx : K.lookup (hp.objs.size + 1) = none := by
    cases e : K.lookup (hp.objs.size + 1) with
    | none => rfl
    | some o =>
      have z : hp.get? (hp.objs.size + 1) = some o := X _ _ e
      exact absurd (Nat.lt_of_succ_lt (Heap.lt_size z)) (Nat.lt_irrefl _)
  refine call_own F.excBase_ValueError (fun X => refsVE_contains X bm hbm) (X _ _ hC) (looks_findIn X hfI) (fun self => bind_fn X self htI) (one_size v) ?_
  refine fx_init (s := ⟨(hp.push (kdv_tup [v])).push (excO C hp.objs.size), g, dr, tk, os⟩) T hfI (X.keeps k) (G.keeps k) hsu (B.keeps k) hsb (hlim.keeps k) hget hnx ?_ fun h' tk' dx t1 ⟨k', hx, dn, dne, hns⟩ => ?_
  · show A.depth + 1 < recursionLimit
    exact hroom
  · have old : ∀ b o, hp.get? b = some o → h'.get? b = some o := fun b o e => k' b o (Nat.ne_of_lt (Nat.lt_succ_of_lt (Heap.lt_size e))) (k b o e)
    have z : hp.objs.size + 1 + 1 ≤ dx := by
      first
        | (simpa only [Heap.size_push] using dn)
        | exact dn
        | (have q := dn; rw [Heap.size_push, Heap.size_push] at q; exact q)
    exact ⟨rfl, hq h' tk' (hp.objs.size + 1) dx ⟨old, Nat.le_succ _, ⟨_, _, hx, rfl, rfl, rfl, rfl⟩, Nat.le_trans (Nat.le_trans (Nat.le_succ _) (Nat.le_succ _)) z, dne, hns⟩⟩
end
end Fx
namespace Fx
open PySem PySem.Spec PyProof.Rows L2
theorem relO_fx {f : Str} {v : V} {v' : Value} (r : RelV v v') (y : Str) : RelO (List.lookup y [(f, v)]) (if y = f then some v' else none) := by
  by_cases hw : y = f
  · subst hw
    rw [if_pos rfl]
    have q : List.lookup y [(y, v)] = some v := by simp [List.lookup]
    rw [q]
    exact r
  · rw [if_neg hw]
    have qw : (y == f) = false := by simpa using hw
    have q2 : List.lookup y [(f, v)] = none := by simp [List.lookup, qw]
    rw [q2]
    trivial
section
variable {X : Cx} {C : Addr} {x0 f : Str}
/-- C(e) -/
def tMkFx (C : Addr) (f : Str) (ta : TA) : L2.St → Hp → XK → Prop := fun σ H Q => ta σ H fun vs H1 => ∃ v, vs = [v] ∧ ∀ d, H1 d = none → Q (.ref C) (some d) (upd H1 d (.xd [(f, v)]))
theorem pmk_fx {a : Expr} {ta : TA} {p pos : Pos} {k : Nat} (T : XC X.K X.prog x0 f C) (gC : X.mg x0 = some (.ref C)) (hsu : X.mg "super" = none) (hr : Room k X.A) (ha : PA X [a] ta) (hg : Gl X x0 := by rfl) (hdb : (x0 == ("__debug__" : Str)) = false := by decide)
    (he : starEach (a :: []) X.env = (false, eval a X.env) :: starEach [] X.env := by rfl) (hpl : (backTo pos (starEach [] X.env)).any (·.1) = false := by rfl) :
    PMk X (.Call (.Name x0 p) [a] [] pos) (tMkFx C f ta) := by
  intro pins s σ H Q I h
  refine wpAny_Call_Name_kw (ld_glob I hg gC ?_ hdb)
  refine PySem.W.callWith_K (h₀ := X.base) I.ok.mod.kin T.kC (thn (ha.run pos pins s σ H _ I h) fun us s1 hh => ?_) he hpl
  obtain ⟨vs, H1, I1, r1, v, ev, q1⟩ := hh
  subst ev
  refine ⟨I1.kIn, ?_⟩
  cases r1 with
  | cons rv rn =>
    rename_i v' us'
    cases rn
    show wpAny _ _ (call (.ref C) [v']) _ _ _
    have hlim := I1.nolimit
    obtain ⟨mb, hb1, hb2⟩ := I1.mod.blt
    have G := I1.mod.glob.keeps I1.bk
    have B := hb1.keeps I1.bk
    obtain ⟨hp, g, dr, tk, os⟩ := s1
    refine wpAny_call (fx_made T I1.kIn G hsu B (hb2 _ (by decide)) hlim (by have := hr.dp; omega) fun h' tk' e d M => ?_)
    show MkP X pins σ Q (.ref e) ⟨h', g, dr, tk', os⟩
    obtain ⟨oe, fv, hoe, hc, hd, hdat, h1⟩ := M.obj
    have hns := M.ns
    obtain ⟨G', g1, g2⟩ := restrict h' fun b => decide (b ≠ e)
    have gk : ∀ b, b ≠ e → G'.get? b = h'.get? b := fun b hb => g1 b (decide_eq_true hb)
    have ge : G'.get? e = none := g2 e (by simp)
    have old : ∀ b o, hp.get? b = some o → G'.get? b = some o := fun b o q => (gk b (Nat.ne_of_lt (Nat.lt_of_lt_of_le (Heap.lt_size q) M.new))).trans (M.keep b o q)
    have ob : ObjOk X.prog X.w (upd H1 d (.xd [(f, v)])) G' d (.xd [(f, v)]) :=
      ⟨_, hns.at (fun o q => (gk d M.dne).trans q), fun y => relO_fx rv y⟩
    have J : Inv X pins σ (upd H1 d (.xd [(f, v)])) ⟨G', g, dr, tk', os⟩ := I1.laid (t' := tk') old M.dbig ob
    refine ⟨e, oe, fv, ⟨G', g, dr, tk', os⟩, _, .ref C, some d, rfl, J, fun b o q => ?_, ge, hoe, ⟨hc, hd⟩, hdat, h1, ?_, rfl, I1.bare, raises_own T.exC T.tyC, q1 d (I1.hok.fresh M.dbig)⟩
    · by_cases hb : b = e
      · have q' : G'.get? b = some o := q
        rw [hb, ge] at q'; cases q'
      · exact (gk b hb).symm.trans q
    · rw [upd_ne (Ne.symm M.dne)]
      exact I1.hok.fresh M.new
/-- raise C(e) -/
def tRaiseFx (C : Addr) (f : Str) (W : WX) (ta : TA) : TS := fun _ σ H => tMkFx C f ta σ H fun cls d H' => W cls d σ H'
theorem ps_raiseFx {a : Expr} {ta : TA} {W : WX} {p pos pos2 : Pos} {k : Nat} (hc : X.calm = true) (T : XC X.K X.prog x0 f C) (gC : X.mg x0 = some (.ref C)) (hsu : X.mg "super" = none) (hr : Room k X.A) (tk : Takes X W) (ha : PA X [a] ta) (hg : Gl X x0 := by rfl) (hdb : (x0 == ("__debug__" : Str)) = false := by decide)
    (he : starEach (a :: []) X.env = (false, eval a X.env) :: starEach [] X.env := by rfl) (hpl : (backTo pos (starEach [] X.env)).any (·.1) = false := by rfl) :
    PS X (.Raise (some (.Call (.Name x0 p) [a] [] pos)) none pos2) (tRaiseFx C f W ta) := ps_raise hc tk (pmk_fx T gC hsu hr ha hg hdb he hpl)
/-- e.f, e the exception that the suite holds -/
theorem XC.xf (T : XC X.K X.prog x0 f C) : XfC X.K C := ⟨T.ga, T.gg, T.exC, T.hdC⟩
end
end Fx
namespace PySem.W
open PySem PySem.Spec PySem.Calls PyProof.Rows
section
variable {prog : Program} {w : World} {A : Around} {E : Value → Shared → Prop} {s : Shared} {K : Frag} {x D : Addr} {ox : Obj} {od : Option Obj}
theorem fx_findObj {C : Addr} {name : Str} {a g : Value} (hc : (clsIn K C).isSome = true) (ha : findIn K (.ref C) name = some (some a)) (hg : specialIn K a "__get__" = some (some g)) (ht : takesIn K a = some true) : findObj K C od name = some (.bind g a) := by
  obtain ⟨cd, hc⟩ := Option.isSome_iff_exists.mp hc
  unfold findObj
  rw [hc, Option.bind_some, ha, Option.bind_some]
  simp [hg, ht]
theorem fx_class {Q : Option Value → Shared → Prop} (hga : findIn K (.ref D) "__getattribute__" = some (some (.builtin "BaseException.__getattribute__"))) (hgt : findIn K (.ref D) "__getattr__" = some none) (hsub : subIn K (.ref D) (.type "BaseException") = some true)
    (hdct : hasDictIn K D = true) (ha : findIn K (.ref D) "__class__" = some (some (.builtin "object.__class__")))
    (hn : specialIn K (.builtin "object.__class__") "__get__" = some (some (.builtin "getset_descriptor.__get__"))) (htk : takesIn K (.builtin "object.__class__") = some true) (hm : mroIn K D (.type "object") = some true)
    (X : K.In s.heap) (I : InstAt s.heap x ox D od) (h : Q (some (.ref D)) { s with toks := s.toks + 1 }) : wpAny (model prog w) A (getAttr? (.ref x) "__class__") Q E s := by
  have hf : findObj K D od "__class__" = some (.bind (.builtin "getset_descriptor.__get__") (.builtin "object.__class__")) := fx_findObj (by obtain ⟨cd, hc, _⟩ := any_some hdct; rw [hc]; rfl) ha hn htk
  obtain ⟨hp, g, d, t, os⟩ := s
  have L0 := I.type (M := model prog w)
  have L1 := looks_findIn (M := model prog w) X hga
  have L2 := looks_findIn (M := model prog w) X hgt
  have L3 := looks_find (M := model prog w) X I hf
  have sub : Looks (model prog w) hp (isInstance (.ref x) (.type "BaseException")) true := L0.andThen (looks_subIn X hsub)
  have hx0 : (false && onTheHeap (Value.builtin "BaseException.__getattribute__")) = false := rfl
  have hx2 : (Value.builtin "BaseException.__getattribute__" == Value.builtin "object.__getattribute__") = false := by decide +kernel
  have hx1 : (onTheHeap (Value.ref D) && Value.builtin "BaseException.__getattribute__" == Value.builtin "object.__getattribute__") = false := by rw [hx2]; rfl
  unfold getAttr? getAttrBy? getAttrBy
  refine wpAny_bind (wpAny_mkText (wpAny_bind (wpAny_attempt (wpAny_holding (wpAny_bind (L0.at (wpAny_bind (L1.at ?_))))))))
  show wpAny _ _ (if (onTheHeap (Value.ref D) && Value.builtin "BaseException.__getattribute__" == Value.builtin "object.__getattribute__") = true then _ else _) _ _ _
  rw [hx1, if_neg Bool.false_ne_true]
  unfold getAttrByItsOwn hookBefore
  refine wpAny_bind ?_
  rw [if_pos (show onTheHeap (Value.ref D) = true from rfl)]
  refine L2.at ?_
  refine wpAny_bind (wpAny_attempt (wpAny_holding ?_))
  unfold callGetattribute
  rw [hx0, if_neg Bool.false_ne_true]
  unfold boundAndCalled
  rw [PySem.F.excAttr_ValueError.ga.bind (.ref x)]
  refine wpAny_bind (wpAny_pure ?_)
  show wpAny _ _ (call (.builtin "BaseException.__getattribute__") [.ref x, .str "__class__" t]) _ _ _
  refine wpAny_call (codeAny_call_builtin PySem.F.excAttr_ValueError.ga.plain PySem.F.entry_bexc_ga ?_)
  refine @check_slot (model prog w) _ _ ⟨hp, g, d, t + 1, os⟩ "BaseException.__getattribute__" "BaseException" "__getattribute__" (.ref x) [.str "__class__" t] [] _ (by decide +kernel) (by decide +kernel) sub (PySem.F.args_bexc_ga (.ref x) (.str "__class__" t)) ?_
  unfold Builtin.«object.__getattribute__»
  refine wpAny_bind (wpAny_of_eq (a := ((Value.ref x : Value), [Value.str "__class__" t])) (by first | rfl | (simp only [slotArgs]; rfl)) ?_)
  refine wpAny_bind (wpAny_pure (wpAny_bind (L0.at (wpAny_bind (L3.at ?_)))))
  show wpAny _ _ (holding [Value.builtin "object.__class__"] (call (.builtin "getset_descriptor.__get__") [.builtin "object.__class__", .ref x, .ref D]) >>= ret) _ _ _
  refine wpAny_bind (wpAny_holding (wpAny_call (class_get (s := ⟨hp, g, d, t + 1, os⟩) (ox := ox) (od := od) X I hm ?_)))
  refine wpAny_pure ?_
  show wpAny _ _ (handedOut (.ref D)) _ _ _
  rw [handedOut_of (v := .ref D) rfl]
  first
    | exact wpAny_pure (wpAny_pure h)
    | exact wpAny_pure h
    | exact wpAny_pure (wpAny_bind (wpAny_pure (wpAny_pure h)))
theorem fx_kitx (hga : findIn K (.ref D) "__getattribute__" = some (some (.builtin "BaseException.__getattribute__"))) (hgt : findIn K (.ref D) "__getattr__" = some none) (hsub : subIn K (.ref D) (.type "BaseException") = some true) (hdct : hasDictIn K D = true) (ha : findIn K (.ref D) "__class__" = some (some (.builtin "object.__class__")))
    (hn : specialIn K (.builtin "object.__class__") "__get__" = some (some (.builtin "getset_descriptor.__get__"))) (htk : takesIn K (.builtin "object.__class__") = some true) (hm : mroIn K D (.type "object") = some true) :
    KitX K (.ref x) (.ref D) (fun h => ∃ od, InstAt h x ox D od) where
  ty := fun _ _ _ ⟨_, I⟩ => I.type
  it := fun _ _ X _ => by
    obtain ⟨cdD, hcD, _⟩ := any_some hdct
    unfold clsIn at hcD
    split at hcD
    · rename_i c' d' cd' sl' ho
      intro A' Q' E' s' k q
      unfold isType loadHead
      exact wpAny_bind (wpAny_loadPart (k _ _ (X _ _ ho)) (wpAny_pure q))
    · cases hcD
  ne := fun h tp dd its n sl X htp => by
    obtain ⟨cdD, hcD, _⟩ := any_some hdct
    refine Bool.eq_false_iff.mpr fun q => ?_
    have e : D = tp := Value.ref.inj (beq_iff_eq.mp q)
    subst e
    unfold clsIn at hcD
    split at hcD
    · rename_i c' d' cd' sl' ho
      have z := (X _ _ ho).symm.trans htp
      cases z
    · cases hcD
  ca := fun X ⟨_, I⟩ k => fx_class hga hgt hsub hdct ha hn htk hm X I k
end
end PySem.W
namespace Fx
open PySem PySem.Spec PyProof.Rows L2
/-- isinstance(e, c), e the exception that the suite holds, with its dict -/
theorem call_isX {X : Cx} {a D dd : Addr} {oe : Obj} {pn : List (Addr × Obj)} {fs : List (Str × V)} (C : ExcC X.K D) (hz : Zc (.ref D) (some dd) oe) (hf : ∃ vs, oe.data = .fields vs) :
    CallR (X.suite a ((a, oe) :: pn)) (.builtin "isinstance") (fun xs H Q => H dd = some (.xd fs) ∧ rIsE X.K D a xs H Q) := by
  intro pins s σ H xs us Q I r h
  obtain ⟨hdd, c, cv, b, rfl, hcv, e, q⟩ := h
  cases r with
  | cons rx rr =>
    cases rr with
    | cons rt rr =>
      cases rr
      cases rx
      have ec := hcv _ rt
      subst ec
      obtain ⟨hget, _⟩ := I.pin (a, oe) (List.mem_append.mpr (.inl List.mem_cons_self))
      obtain ⟨vs, hv⟩ := hf
      have hx : ObjOk X.prog X.w H s.heap dd (.xd fs) := I.hok dd _ hdd
      obtain ⟨mA, ⟨od, es, ep, ho, hrest⟩, hr⟩ := hx
      have J : PySem.W.InstAt s.heap a oe D (some od) := ⟨hget, hz.1, by unfold PySem.W.notCls; rw [hv] <;> rfl, by rw [hz.2]; exact ho⟩
      exact PySem.W.kia_one (PySem.W.fx_kitx C.hg C.hk C.hs C.hd C.ha C.hn C.ht C.hm) I.kIn ⟨_, J⟩ e (fun z => nomatch z) fun tk => ⟨.bl b, H, I.kept (t' := tk) fun _ _ z => z, rfl, q⟩
end Fx
namespace Fx
open PySem PySem.Spec PyProof.Rows L2
def clsVal : V → Option Value
  | .ref C => some (.ref C)
  | .ty n => some (.type n)
  | _ => none
/-- isinstance(e, c) in an except suite, e the exception that it holds: its class cls, its dict d -/
def rIsY (K : PySem.W.Frag) (a : Addr) (cls : Value) (d : Option Addr) : List V → Hp → VK → Prop := fun xs H Q => ∃ c, xs = [.ref a, c] ∧ ∃ D, cls = .ref D ∧ ∃ dd, d = some dd ∧ (∃ fs, H dd = some (.xd fs)) ∧ ExcC K D ∧ ∃ cv, clsVal c = some cv ∧ ∃ b, PySem.W.kitOne K (.ref D) cv = some b ∧ Q (.bl b) H
theorem call_isY {X : Cx} {a : Addr} {oe : Obj} {cls : Value} {d : Option Addr} {pn : List (Addr × Obj)} (hz : Zc cls d oe) (hf : ∃ vs, oe.data = .fields vs) :
    CallR (X.suite a ((a, oe) :: pn)) (.builtin "isinstance") (rIsY X.K a cls d) := by
  intro pins s σ H xs us Q I r h
  obtain ⟨c, e1, D, e2, dd, e3, ⟨fs, hfs⟩, C, cv, hcv, b, hb, q⟩ := h
  subst e1 e2 e3
  refine call_isX (fs := fs) C hz hf pins s σ H _ us Q I r ⟨hfs, c, cv, b, rfl, fun u ru => ?_, hb, q⟩
  cases c with
  | ref C2 => cases hcv; exact ru
  | ty n => cases hcv; exact ru
  | _ => cases hcv
theorem XC.xfc {K : PySem.W.Frag} {P : Program} {x f : Str} {C : Addr} (T : XC K P x f C) : XfC K C := ⟨T.ga, T.gg, T.exC, T.hdC⟩
end Fx
/-! The head's facts: defs, errors' classes, any further facts as tests of the written part -/
namespace FxH
open PySem PySem.Spec PyProof.Rows L2 He
def asR (g : Addr → Option Obj) : Nat → List Addr
  | 0 => [mainGlobals, cStatics]
  | n + 1 => growD g (asR g n)
abbrev Fct := PySem.W.Frag → Bool
/-- an error's class: its name, its field, its __init__ -/
structure InD where
  x : Str
  f : Str
  qual : Str
  st : Stmt
abbrev FnX : Type := Option (Str × Str × Arguments × FuncBody × Scope × Addr × List Str × Value × Addr)
def fnXo (K : PySem.W.Frag) (x : Str) : FnX := match K.lookup (ma K (ga K x) "__init__") with
  | some ⟨_, _, .func fd, _⟩ => some (fd.name, fd.qualname, fd.params, fd.body, fd.scope, fd.globals, fd.closure.map (·.1), fd.defaults, fd.builtins)
  | _ => none
def InD.val (d : InD) : FnX := some ("__init__", d.qual, defArgs d.st, .stmts (defBody d.st), defScope d.st, mainGlobals, ["__class__"], .none, builtinsNs)
def clsB (K : PySem.W.Frag) (C : Addr) : Bool := match K.lookup C with
  | some ⟨.type "type", _, .cls cd, sl⟩ => (match cd.mro, sl.toList with
    | .ref C' :: bm, [_, _, _, _, some (.builtin n), _] => C' == C && (n == "ValueError.__new__" && (!cd.hasDel && (cd.hasDict && (PySem.HandSPX.refsVE bm && decide (PySem.W.alongIn K "__init__" bm = some (some (.builtin "ValueError.__init__")))))))
    | _, _ => false)
  | _ => false
theorem clsB_ok {K : PySem.W.Frag} {C : Addr} (q : clsB K C = true) : ∃ nm q N bs bm sn sub ab col dd k0 k1 k2 k3 k5, K.lookup C = some (excClassObj nm q C N bs bm true sn sub ab col dd k0 k1 k2 k3 k5 "ValueError.__new__") ∧ PySem.HandSPX.refsVE bm = true ∧ PySem.W.alongIn K "__init__" bm = some (some (.builtin "ValueError.__init__")) := by
  unfold clsB at q
  split at q
  · rename_i dd cd sl ho
    split at q
    · rename_i C' bm k0 k1 k2 k3 n k5 hm hs
      simp only [Bool.and_eq_true, beq_iff_eq, Bool.not_eq_true', decide_eq_true_eq] at q
      obtain ⟨rfl, rfl, hdel, hdct, ht, hal⟩ := q
      obtain ⟨nm, bs, mro, ns, qn, hd, sn, sub, ab, col, del⟩ := cd
      dsimp only at hm hdel hdct
      subst hm hdel hdct
      have hsl : sl = #[k0, k1, k2, k3, some (.builtin "ValueError.__new__"), k5] := by
        obtain ⟨l⟩ := sl
        simp only at hs
        rw [hs]
      subst hsl
      exact ⟨nm, qn, ns, bs, bm, sn, sub, ab, col, dd, k0, k1, k2, k3, k5, ho, ht, hal⟩
    · cases q
  · cases q
/-- the cell and the code of the __init__ -/
def iniB (K : PySem.W.Frag) (C fI : Addr) (qual file : Str) : Bool := match K.lookup fI with
  | some ⟨_, _, .func fd, _⟩ => (match fd.closure, fd.code with
    | [(_, cc)], .ref cda => PySem.W.codeIn K (.ref cda) qual && ((match K.lookup cda with
        | some ⟨_, _, .fields vs, _⟩ => (match (vs[2]? : Option Value) with
          | some (Value.str n _) => decide (n = file)
          | _ => false)
        | _ => false) && (match K.lookup cc with
        | some ⟨_, _, .cell (some (.ref D)), _⟩ => decide (D = C)
        | _ => false))
    | _, _ => false)
  | _ => false
def InD.ok (file : Str) (K : PySem.W.Frag) (d : InD) : Bool :=
  let C := ga K d.x
  let fI := ma K C "__init__"
  eqO (PySem.W.nsIn K mainGlobals d.x) (some (some (.ref C))) && (clsB K C && (eqO (PySem.W.findIn K (.ref C) "__setattr__") (some (some (.builtin "object.__setattr__"))) &&
  (eqO (PySem.W.findIn K (.ref C) "__getattribute__") (some (some (.builtin "BaseException.__getattribute__"))) && (eqO (PySem.W.findIn K (.ref C) "__getattr__") (some none) && (eqO (PySem.W.findIn K (.ref C) d.f) (some none) &&
  (PySem.W.keepIn K (.ref C) && (decide (PySem.W.subIn K (.ref C) (.type "BaseException") = some true) && (decide (PySem.W.subIn K (.ref C) (.type "ValueError") = some true) && (decide (PySem.W.typeIn K (.ref C) = some (.type "type")) &&
  (PySem.W.hasDictIn K C && (eqO (PySem.W.nsIn K cStatics "thirdparty.any") (some none) && (eqO (PySem.W.findIn K (.ref C) "__init__") (some (some (.ref fI))) && (decide (PySem.W.typeIn K (.ref fI) = some (.type "function")) && iniB K C fI d.qual file)))))))))))))
/-- what isinstance asks of an error's class -/
def excB (K : PySem.W.Frag) (x : Str) : Bool :=
  let C := ga K x
  eqO (PySem.W.findIn K (.ref C) "__getattribute__") (some (some (.builtin "BaseException.__getattribute__"))) && (eqO (PySem.W.findIn K (.ref C) "__getattr__") (some none) && (decide (PySem.W.subIn K (.ref C) (.type "BaseException") = some true) &&
  (PySem.W.hasDictIn K C && (eqO (PySem.W.findIn K (.ref C) "__class__") (some (some (.builtin "object.__class__"))) && (eqO (PySem.W.specialIn K (.builtin "object.__class__") "__get__") (some (some (.builtin "getset_descriptor.__get__"))) &&
  (decide (PySem.W.takesIn K (.builtin "object.__class__") = some true) && decide (PySem.W.mroIn K C (.type "object") = some true)))))))
theorem excB_ok {K : PySem.W.Frag} {x : Str} (h : excB K x = true) : ExcC K (ga K x) := by
  obtain ⟨h1, h⟩ := ba h
  obtain ⟨h2, h⟩ := ba h
  obtain ⟨h3, h⟩ := ba h
  obtain ⟨h4, h⟩ := ba h
  obtain ⟨h5, h⟩ := ba h
  obtain ⟨h6, h⟩ := ba h
  obtain ⟨h7, h8⟩ := ba h
  exact ⟨eqO_ok h1, eqO_ok h2, of_decide_eq_true h3, h4, eqO_ok h5, eqO_ok h6, of_decide_eq_true h7, of_decide_eq_true h8⟩
/-- the class's facts, from the hook -/
theorem InD.xc {P : Program} {K : PySem.W.Frag} {d : InD} {m : Str} {p1 p2 q1 q2 q3 q4 q5 q6 q7 q8 q9 q10 : Pos} (e : fnXo K d.x = d.val) (c : d.ok (P.main.file : Str) K = true) (fo : Fx.FOk d.f)
    (hA : defArgs d.st = Fx.xA d.f p1 p2) (hB : defBody d.st = Fx.xB d.f m q1 q2 q3 q4 q5 q6 q7 q8 q9 q10) (hS : defScope d.st = Fx.xS d.f) (hp : (q3.endLine == q5.line) = true)
    (bd : ∀ (fd : FuncData) (p1 p2 : Pos), fd.params = Fx.xA d.f p1 p2 → fd.defaults = .none → ∀ (u1 u2 : Value), bindArgs fd ⟨[u1, u2], []⟩ = pure [(("self" : Str), u1), (d.f, u2)])
    (top : (P.main.scope.names.lookup ("super" : Str)).isSome = false) : Fx.XC K P d.x d.f (ga K d.x) := by
  obtain ⟨c0, c⟩ := ba c
  obtain ⟨c1, c⟩ := ba c
  obtain ⟨c2, c⟩ := ba c
  obtain ⟨c3, c⟩ := ba c
  obtain ⟨c4, c⟩ := ba c
  obtain ⟨c5, c⟩ := ba c
  obtain ⟨c6, c⟩ := ba c
  obtain ⟨c7, c⟩ := ba c
  obtain ⟨c8, c⟩ := ba c
  obtain ⟨c9, c⟩ := ba c
  obtain ⟨c10, c⟩ := ba c
  obtain ⟨c11, c⟩ := ba c
  obtain ⟨c12, c⟩ := ba c
  obtain ⟨c13, c14⟩ := ba c
  refine ⟨fo, clsB_ok c1, eqO_ok c2, eqO_ok c3, eqO_ok c4, eqO_ok c5, c6, of_decide_eq_true c7, of_decide_eq_true c8, of_decide_eq_true c9, c10, eqO_ok c11, ⟨_, eqO_ok c12, of_decide_eq_true c13, ?_⟩, bd, top⟩
  unfold iniB at c14
  unfold fnXo at e
  cases q : K.lookup (ma K (ga K d.x) "__init__") with
  | none =>
    rw [q] at c14
    cases c14
  | some o =>
    obtain ⟨oc, od, dt, osl⟩ := o
    rw [q] at c14 e
    cases dt with
    | func fd =>
      obtain ⟨n1, n2, n3, n4, n5, n6, n7, n8, n9, n10, n11, n12, n13, n14, n15⟩ := fd
      have e2 : (some (n1, n2, n3, n4, n5, n6, n7.map (·.1), n8, n15) : FnX) = some (("__init__" : Str), d.qual, defArgs d.st, FuncBody.stmts (defBody d.st), defScope d.st, mainGlobals, [("__class__" : Str)], Value.none, builtinsNs) := e
      simp only [Option.some.injEq, Prod.mk.injEq] at e2
      obtain ⟨h1, h2, h3, h4, h5, h6, h7, h8, h9⟩ := e2
      subst h1 h2 h3 h4 h5 h6 h8 h9
      dsimp only at c14
      cases n7 with
      | nil => cases h7
      | cons a n7 =>
        cases n7 with
        | cons b n7 =>
          have z := congrArg List.length h7
          simp at z
        | nil =>
          obtain ⟨nm, cc⟩ := a
          have h7' : nm = ("__class__" : Str) := by
            have z := List.cons.inj h7
            exact z.1
          subst h7'
          cases n13 with
          | ref cda =>
            dsimp only at c14
            obtain ⟨d1, d2⟩ := ba c14
            obtain ⟨d3, d4⟩ := ba d2
            split at d3
            · rename_i ccl cdd vs ccs hl
              split at d3
              · rename_i n tf hvs
                have en : n = (P.main.file : Str) := of_decide_eq_true d3
                subst en
                split at d4
                · rename_i cl cld D csl hcell
                  have eD : D = ga K d.x := of_decide_eq_true d4
                  subst eD
                  refine ⟨d.qual, m, oc, od, n9, n10, n11, n12, cda, cc, n14, osl, p1, p2, q1, q2, q3, q4, q5, q6, q7, q8, q9, q10, ccl, cdd, vs, ccs, tf, cl, cld, csl, ?_, d1, hl, hvs, hcell, hp⟩
                  rw [hA, hB, hS]
                · cases d4
              · cases d3
            · cases d3
          | _ => cases c14
    | _ => cases c14
/-! ### the Hook -/
abbrev AlX : Type := Bool × List FnW × List FnX
def obsX (file : Str) (fa : List Fct) (fn : List DefD) (fi : List InD) (K : PySem.W.Frag) : AlX := (((fa.all fun f => f K) && (fn.all fun d => d.ok K)) && (fi.all fun d => d.ok file K), fn.map (fun d => fnW K d.at_), fi.map fun d => fnXo K d.x)
def valX (fn : List DefD) (fi : List InD) : AlX := (true, fn.map DefD.val, fi.map InD.val)
def SaysX (file : Str) (fa : List Fct) (fn : List DefD) (fi : List InD) (K : PySem.W.Frag) : Prop := obsX file fa fn fi K = valX fn fi
def obsXG (n : Nat) (file : Str) (fa : List Fct) (fn : List DefD) (fi : List InD) (g : Addr → Option Obj) : AlX := obsX file fa fn fi (frG g (asR g n))
def hookX (n : Nat) (file : Str) (fa : List Fct) (fn : List DefD) (fi : List InD) : PySem.W.Hook where
  α := AlX
  obs := fun s => obsXG n file fa fn fi s.heap.get?
  val := fun _ => valX fn fi
  says := fun _ h => ∃ K : PySem.W.Frag, K.In h ∧ SaysX file fa fn fi K
  of := fun _ _ e => ⟨_, frG_in, e⟩
  keeps := fun _ _ _ ⟨K, hK, c⟩ k => ⟨K, PySem.W.Frag.In.keeps hK k, c⟩
theorem obsXG_eq {n : Nat} {file : Str} {fa : List Fct} {fn : List DefD} {fi : List InD} {g : Addr → Option Obj} {s : Shared} (h : ∀ a, g a = s.heap.get? a) : obsXG n file fa fn fi g = (hookX n file fa fn fi).obs s := by
  have e : g = s.heap.get? := funext h
  rw [e] <;> rfl
section
variable {file : Str} {fa : List Fct} {fn : List DefD} {fi : List InD} {K : PySem.W.Frag}
theorem SaysX.fact (c : SaysX file fa fn fi K) (i : Nat) {f : Fct} (h : fa[i]? = some f := by rfl) : f K = true := by
  have c1 := (ba (ba (show (((fa.all fun f => f K) && (fn.all fun d => d.ok K)) && (fi.all fun d => d.ok file K)) = true from congrArg (fun z : AlX => z.1) c)).1).1
  exact List.all_eq_true.mp c1 f (List.mem_of_getElem? h)
theorem SaysX.def_ (c : SaysX file fa fn fi K) (i : Nat) {d : DefD} (h : fn[i]? = some d := by rfl) : ∃ fd, FunD K d.name d.qual d.params d.body d.scope (d.dvs K) (d.kws K) (fAd K d.at_) fd := by
  have c2 := (ba (ba (show (((fa.all fun f => f K) && (fn.all fun d => d.ok K)) && (fi.all fun d => d.ok file K)) = true from congrArg (fun z : AlX => z.1) c)).1).2
  have e : fn.map (fun d => fnW K d.at_) = fn.map DefD.val := congrArg (fun z : AlX => z.2.1) c
  have e2 : (fn.map fun d => fnW K d.at_)[i]? = (fn.map DefD.val)[i]? := by rw [e]
  rw [List.getElem?_map, List.getElem?_map, h] at e2
  exact DefD.funD (Option.some.inj e2) (List.all_eq_true.mp c2 d (List.mem_of_getElem? h))
theorem SaysX.ini (c : SaysX file fa fn fi K) (i : Nat) {d : InD} (h : fi[i]? = some d := by rfl) : fnXo K d.x = d.val ∧ d.ok file K = true := by
  have c2 := (ba (show (((fa.all fun f => f K) && (fn.all fun d => d.ok K)) && (fi.all fun d => d.ok file K)) = true from congrArg (fun z : AlX => z.1) c)).2
  have e : fi.map (fun d => fnXo K d.x) = fi.map InD.val := congrArg (fun z : AlX => z.2.2) c
  have e2 : (fi.map fun d => fnXo K d.x)[i]? = (fi.map InD.val)[i]? := by rw [e]
  rw [List.getElem?_map, List.getElem?_map, h] at e2
  exact ⟨Option.some.inj e2, List.all_eq_true.mp c2 d (List.mem_of_getElem? h)⟩
end
end FxH
/-! Short words over the layer: a def by its name (Src), a def that keeps its promise (Cal), constants (Cst) -/
namespace Fx
open PySem PySem.Spec PyProof.Rows L2
/-- a def of the text as it stands behind the top -/
def Src (K : PySem.W.Frag) (mg : Str → Option Value) (x : Str) (st : Stmt) : Prop := ∃ f fd, mg x = some (.ref f) ∧ FunD K x x (defArgs st) (defBody st) (defScope st) [] [] f fd
/-- a def that keeps its promise -/
structure Cal (P : Program) (w : World) (K : PySem.W.Frag) (mg : Str → Option Value) (base : Heap) (CX : CXT) (k : Nat) (x : Str) (ps : List Str) (sp : Sp) : Prop where
  ex : ∃ f fd, mg x = some (.ref f) ∧ PySem.W.keepIn K (.ref f) = true ∧ Binds K fd ps [] ∧ FnOk P w K mg base CX k f fd ps sp
/-- a constant of the module -/
def Cst (mg : Str → Option Value) (x : Str) (v : V) : Prop := ∃ u, mg x = some u ∧ RelV v u
section
variable {P : Program} {w : World} {K : PySem.W.Frag} {mg : Str → Option Value} {base : Heap} {x : Str} {st : Stmt} {N ps : List Str} {k : Nat} {sp : Sp}
abbrev BindP (x : Str) (st : Stmt) (ps : List Str) : Prop := ∀ (kV doc pm : Value) (an : Option Addr) (cdv ct : Value) (us : List Value), us.length = ps.length → bindArgs (PySem.W.fnOf x x (defArgs st) (defBody st) (defScope st) .none kV doc pm an cdv ct) ⟨us, []⟩ = pure (ps.zip us)
/-- a def that lets nothing out -/
theorem Src.cal (S : Src K mg x st) (sc : FnScope N ps (defScope st)) (bn : BindP x st ps) (len : ∀ vs H Q E, sp vs H Q E → vs.length = ps.length)
    (hbody : ∀ (f : Addr) (cdv : Value) (A : Around) (outer : List Env) (s : Shared) (H : Hp) (vs : List V) (Q : VK) (E : XK), Room k (A.deeper (envOfC x (defScope st) s.heap.objs.size f cdv)) → sp vs H Q E →
      ∃ t, PSs (cxOf CX0 P w K mg base N x (defScope st) f cdv A outer s H E).nox (defBody st) t ∧ t { nx := fun _ H' => Q .non H', rt := Q } (start N vs) H) : Cal P w K mg base CX0 (k + 1) x ps sp := by
  obtain ⟨f, fd, g, F⟩ := S
  refine ⟨f, fd, g, F.kp, F.bindsN bn, F.ok sc len fun cdv A outer s H vs Q E hr hsp => ?_⟩
  obtain ⟨t, h, q⟩ := hbody f cdv A outer s H vs Q E hr hsp
  exact ⟨t, h.nox, q⟩
/-- a def that may raise -/
theorem Src.calX (S : Src K mg x st) (sc : FnScope N ps (defScope st)) (bn : BindP x st ps) (len : ∀ vs H Q E, sp vs H Q E → vs.length = ps.length)
    (hbody : ∀ (f : Addr) (cdv : Value) (A : Around) (outer : List Env) (s : Shared) (H : Hp) (vs : List V) (Q : VK) (E : XK), Room k (A.deeper (envOfC x (defScope st) s.heap.objs.size f cdv)) → sp vs H Q E →
      ∃ t, PSs (cxOf (L2.CX P w) P w K mg base N x (defScope st) f cdv A outer s H E) (defBody st) t ∧ t { nx := fun _ H' => Q .non H', rt := Q } (start N vs) H) : Cal P w K mg base (L2.CX P w) (k + 1) x ps sp := by
  obtain ⟨f, fd, g, F⟩ := S
  exact ⟨f, fd, g, F.kp, F.bindsN bn, F.ok sc len fun cdv A outer s H vs Q E hr hsp => hbody f cdv A outer s H vs Q E hr hsp⟩
end
/-! ### arguments without a star -/
def nostar : Expr → Bool
  | .Starred _ _ => false
  | _ => true
theorem star_ok {e : Expr} {es : List Expr} {env : Env} (h : nostar e = true) : starEach (e :: es) env = (false, eval e env) :: starEach es env := by
  cases e <;> first | rfl | cases h
theorem back_ok {pos : Pos} {env : Env} : ∀ {es : List Expr}, es.all nostar = true → (backTo pos (starEach es env)).any (·.1) = false
  | [], _ => rfl
  | e :: es, h => by
    simp only [List.all_cons, Bool.and_eq_true] at h
    rw [star_ok h.1]
    show (false || (backTo pos (starEach es env)).any (·.1)) = false
    rw [back_ok h.2]
    rfl
theorem pa_c {X : Cx} {e : Expr} {es : List Expr} {te : TE} {t : TA} (ha : PE X e te) (hr : PA X es t) (hs : nostar e = true := by rfl) : PA X (e :: es) (tCons te t) := pa_cons ha hr (star_ok hs)
section
variable {X : Cx} {x : Str} {p pos : Pos} {e : Expr} {es : List Expr} {t : TA} {id T : String} {r : List V → Hp → VK → Prop}
theorem pe_cB (hc : CallR X (.builtin id) r) (hm : X.mg x = none) (hv : bootBuiltins x = some (.builtin id)) (ha : PA X (e :: es) t) (hg : Gl X x := by rfl) (hn : x ≠ "__name__" := by decide) (hdb : (x == ("__debug__" : Str)) = false := by decide)
    (hs : (e :: es).all nostar = true := by rfl) : PE X (.Call (.Name x p) (e :: es) [] pos) (tCB r t) := by
  simp only [List.all_cons, Bool.and_eq_true] at hs
  exact pe_callB hc hg hm hv ha hn hdb (star_ok hs.1) (back_ok hs.2)
theorem pe_cTy (hc : CallR X (.type T) r) (hm : X.mg x = none) (hv : bootBuiltins x = some (.type T)) (ha : PA X (e :: es) t) (hg : Gl X x := by rfl) (hn : x ≠ "__name__" := by decide) (hdb : (x == ("__debug__" : Str)) = false := by decide)
    (hs : (e :: es).all nostar = true := by rfl) : PE X (.Call (.Name x p) (e :: es) [] pos) (tCB r t) := by
  simp only [List.all_cons, Bool.and_eq_true] at hs
  exact pe_callTy hc hg hm hv ha hn hdb (star_ok hs.1) (back_ok hs.2)
end
section
variable {X : Cx} {x : Str} {ps : List Str} {sp : Sp} {k : Nat} {CX : CXT} {E : XK} {e : Expr} {es : List Expr} {t : TA} {p pos : Pos}
/-- f(e, ..) -/
theorem pe_cal (C : Cal X.prog X.w X.K X.mg X.base CX k x ps sp) (hr : Room k X.A) (hx : Passes CX X E) (ha : PA X (e :: es) t) (hg : Gl X x := by rfl) (hdb : (x == ("__debug__" : Str)) = false := by decide)
    (hs : (e :: es).all nostar = true := by rfl) : PE X (.Call (.Name x p) (e :: es) [] pos) (tCall sp [] E t) := by
  obtain ⟨f, fd, g, kp, b, F⟩ := C.ex
  simp only [List.all_cons, Bool.and_eq_true] at hs
  exact pe_call F hr hg g kp b .nil hx ha hdb (star_ok hs.1) (back_ok hs.2)
theorem pe_cal0 (C : Cal X.prog X.w X.K X.mg X.base CX k x ps sp) (hr : Room k X.A) (hx : Passes CX X E) (hg : Gl X x := by rfl) (hdb : (x == ("__debug__" : Str)) = false := by decide) : PE X (.Call (.Name x p) [] [] pos) (tCall sp [] E tNil) := by
  obtain ⟨f, fd, g, kp, b, F⟩ := C.ex
  exact pe_call0 F hr hg g kp b .nil hx hdb
/-- f(e, ..) of a def that may raise, in a try's body -/
theorem pe_calS {W : WX} (C : Cal X.prog X.w X.K X.mg X.base (L2.CX X.prog X.w) k x ps sp) (hr : Room k X.A) (tk : Takes X W) (ha : PA X (e :: es) t) (hg : Gl X x := by rfl) (hdb : (x == ("__debug__" : Str)) = false := by decide)
    (hs : (e :: es).all nostar = true := by rfl) : PE X (.Call (.Name x p) (e :: es) [] pos) (tCallS sp (WE W) t) := by
  obtain ⟨f, fd, g, kp, b, F⟩ := C.ex
  simp only [List.all_cons, Bool.and_eq_true] at hs
  exact pe_callS F hr hg g kp b (fun σ => passAt tk σ) ha hdb (star_ok hs.1) (back_ok hs.2)
theorem pe_cst {v : V} (h : Cst X.mg x v) (hg : Gl X x := by rfl) (hdb : (x == ("__debug__" : Str)) = false := by decide) : PE X (.Name x p) (tC v) := by
  obtain ⟨u, hm, r⟩ := h
  exact pe_glob hg hm r hdb
end
end Fx
/-! The law's bag of numbers -/
namespace Fx
open PySem PySem.Spec PyProof.Rows L2
def bagKV (c : Addr) (a r m n : Int) : List (Key × V) := [(.inr "cells", .ref c), (.inr "at", .int a), (.inr "rest", .int r), (.inr "mixed", .int m), (.inr "count", .int n)]
section
variable {c : Addr} {a r m n : Int} {v : Int}
theorem bag_cells : valV (bagKV c a r m n) (.inr "cells") = some (.ref c) := rfl
theorem bag_at : valV (bagKV c a r m n) (.inr "at") = some (.int a) := rfl
theorem bag_rest : valV (bagKV c a r m n) (.inr "rest") = some (.int r) := rfl
theorem bag_mixed : valV (bagKV c a r m n) (.inr "mixed") = some (.int m) := rfl
theorem bag_count : valV (bagKV c a r m n) (.inr "count") = some (.int n) := rfl
theorem bag_atP : putK (bagKV c a r m n) (.inr "at") (.int v) = bagKV c v r m n := rfl
theorem bag_restP : putK (bagKV c a r m n) (.inr "rest") (.int v) = bagKV c a v m n := rfl
theorem bag_mixedP : putK (bagKV c a r m n) (.inr "mixed") (.int v) = bagKV c a r v n := rfl
theorem bag_countP : putK (bagKV c a r m n) (.inr "count") (.int v) = bagKV c a r m v := rfl
end
/-- the bag at b, its numbers at c -/
def BagC (H : Hp) (b c : Addr) : Prop := ∃ (ns : List Int) (a r m n : Int), H b = some (.dK (bagKV c a r m n)) ∧ H c = some (.lst (ns.map V.int)) ∧ 0 ≤ a
def Bag (H : Hp) (b : Addr) : Prop := ∃ c : Addr, BagC H b c
/-- all that was tracked but the bag is as it was; the bag is a bag -/
structure Kp (b : Addr) (H H' : Hp) : Prop where
  keep : ∀ a o, a ≠ b → H a = some o → H' a = some o
  bag : Bag H' b
  cel : ∀ c, BagC H b c → BagC H' b c
section
variable {b c D : Addr} {H H1 H2 : Hp}
theorem Bag.some (B : Bag H b) : ∃ kvs, H b = some (.dK kvs) := by
  obtain ⟨c, ns, a, r, m, n, h, _⟩ := B
  exact ⟨_, h⟩
theorem BagC.same (B : BagC H b c) (s : Same H H1) : BagC H1 b c := by
  obtain ⟨ns, a, r, m, n, h1, h2, h3⟩ := B
  exact ⟨ns, a, r, m, n, s _ _ h1, s _ _ h2, h3⟩
theorem Kp.refl (B : Bag H b) : Kp b H H := ⟨fun _ _ _ h => h, B, fun _ h => h⟩
theorem Kp.trans (x : Kp b H H1) (y : Kp b H1 H2) : Kp b H H2 := ⟨fun a o n h => y.keep a o n (x.keep a o n h), y.bag, fun c h => y.cel c (x.cel c h)⟩
theorem Bag.same (B : Bag H b) (s : Same H H1) : Bag H1 b := by
  obtain ⟨c, h⟩ := B
  exact ⟨c, h.same s⟩
theorem Kp.same (B : Bag H b) (s : Same H H1) : Kp b H H1 := ⟨fun a o _ h => s a o h, B.same s, fun c h => h.same s⟩
theorem Kp.then (x : Kp b H H1) (s : Same H1 H2) : Kp b H H2 := x.trans (Kp.same x.bag s)
theorem BagC.put {o : HO} (B : BagC H b c) (hb : b ≠ D) (hc : c ≠ D) : BagC (upd H D o) b c := by
  obtain ⟨ns, a, r, m, n, h1, h2, h3⟩ := B
  exact ⟨ns, a, r, m, n, by rw [upd_ne hb]; exact h1, by rw [upd_ne hc]; exact h2, h3⟩
/-- what was made since then may be changed -/
theorem Kp.put {o : HO} (B : Bag H b) (x : Kp b H H1) (hD : H D = Option.none) : Kp b H (upd H1 D o) := by
  have g : ∀ c, BagC H b c → BagC (upd H1 D o) b c := by
    intro c Bc
    have B1 := x.cel c Bc
    obtain ⟨ns, a, r, m, n, h1, h2, h3⟩ := Bc
    exact B1.put (ne_of_none h1 hD) (ne_of_none h2 hD)
  obtain ⟨c, Bc⟩ := B
  exact ⟨fun a o' n h => by rw [upd_ne (ne_of_none h hD)]; exact x.keep a o' n h, ⟨c, g c Bc⟩, g⟩
theorem Kp.none_ne (x : Kp b H H1) (B : Bag H b) (hD : H D = Option.none) : D ≠ b := fun e => by
  obtain ⟨kvs, h⟩ := B.some
  rw [← e, hD] at h
  cases h
theorem Bag.lst (B : Bag H b) {a : Addr} {xs : List V} (h : H a = Option.some (.lst xs)) : a ≠ b := by
  obtain ⟨c, ns, x, r, m, n, h1, _⟩ := B
  exact ne_of h h1 (by intro z; cases z)
theorem Bag.tup (B : Bag H b) {a : Addr} {xs : List V} (h : H a = Option.some (.tup xs)) : a ≠ b := by
  obtain ⟨c, ns, x, r, m, n, h1, _⟩ := B
  exact ne_of h h1 (by intro z; cases z)
theorem Kp.lst (x : Kp b H H1) (B : Bag H b) {a : Addr} {xs : List V} (h : H a = Option.some (.lst xs)) : H1 a = Option.some (.lst xs) := x.keep _ _ (B.lst h) h
theorem Kp.tup (x : Kp b H H1) (B : Bag H b) {a : Addr} {xs : List V} (h : H a = Option.some (.tup xs)) : H1 a = Option.some (.tup xs) := x.keep _ _ (B.tup h) h
theorem Kp.free (x : Kp b H H1) {p : Addr} (h : H1 p = Option.none) : H p = Option.none := by
  cases q : H p with
  | none => rfl
  | some o =>
    by_cases e : p = b
    · obtain ⟨kvs, hb⟩ := x.bag.some
      rw [e, hb] at h
      cases h
    · rw [x.keep p o e q] at h
      cases h
theorem same_new {H : Hp} {p : Addr} {o : HO} (h : H p = Option.none) : Same H (upd H p o) := fun b x e => by
  rw [upd_ne (ne_of_none e h)]
  exact e
end
/-- _law_pick(bag, many) -/
def spPick : Sp := fun vs H Q _ => ∃ (b : Addr) (many : Int), vs = [.ref b, .int many] ∧ Bag H b ∧ 0 < many ∧ many < 1073741824 ∧ ∀ (n : Int) (H' : Hp), 0 ≤ n → n < many → Kp b H H' → Q (.int n) H'
/-- _law_bag(script) -/
def spBag (K : PySem.W.Frag) : Sp := fun vs H Q _ => ∃ (a : Addr) (ns : List Int), vs = [.ref a] ∧ SqL K H a (ns.map V.int) ∧ ns.length ≤ 1000 ∧ ∀ (b : Addr) (H' : Hp), Same H H' → H b = none → Bag H' b → Q (.ref b) H'
end Fx
/-! Readings evaluated by simp -/
namespace Fx
open PySem PySem.Spec PyProof.Rows L2
section
variable {H H' : Hp} {a b p : Addr} {z : Str} {i : Int} {r : Option V} {v : V} {kvs : List (Key × V)} {o u : HO}
theorem dget_s (hb : H b = some (.dK kvs)) : DGet H b (.str z) r ↔ r = valV kvs (.inr z) := by
  constructor
  · rintro (⟨kvs', k, hr, e, rfl⟩ | ⟨kvs', k, b', hr, e, _⟩)
    · rcases hr with hr | ⟨o, hr⟩
      · rw [hb] at hr
        cases hr
        cases k with
        | inl i => cases e
        | inr y => cases e; rfl
      · rw [hb] at hr
        cases hr
    · cases e
  · rintro rfl
    exact DGet.k (k := Sum.inr z) hb
theorem dget_i (hb : H b = some (.dK kvs)) : DGet H b (.int i) r ↔ r = valV kvs (.inl i) := by
  constructor
  · rintro (⟨kvs', k, hr, e, rfl⟩ | ⟨kvs', k, b', hr, e, _⟩)
    · rcases hr with hr | ⟨o, hr⟩
      · rw [hb] at hr
        cases hr
        cases k with
        | inl i => cases e; rfl
        | inr y => cases e
      · rw [hb] at hr
        cases hr
    · cases e
  · rintro rfl
    exact DGet.k (k := Sum.inl i) hb
theorem dput_s (hb : H b = some (.dK kvs)) (hl : kvs.length < 1000) : DPut H b (.str z) v H' ↔ H' = upd H b (.dK (putK kvs (.inr z) v)) := by
  constructor
  · rintro (⟨kvs', k, hr, e, _, rfl⟩ | ⟨kvs', k, b', hr, e, _⟩)
    · rw [hb] at hr
      cases hr
      cases k with
      | inl i => cases e
      | inr y => cases e; rfl
    · cases e
  · rintro rfl
    exact DPut.k (k := Sum.inr z) hb (Nat.lt_of_lt_of_le hl (by decide))
theorem dget_su : DGet (upd H b (.dK kvs)) b (.str z) r ↔ r = valV kvs (.inr z) := dget_s upd_same
theorem dput_su (hl : kvs.length < 1000) : DPut (upd H b (.dK kvs)) b (.str z) v H' ↔ H' = upd H b (.dK (putK kvs (.inr z) v)) := by
  rw [dput_s upd_same hl, upd_upd]
theorem bag_len {c : Addr} {a r m n : Int} : (bagKV c a r m n).length < 1000 := show 5 < 1000 by decide
theorem ite_dec {p : Prop} [Decidable p] {A B : Prop} : (if decide p = true then A else B) ↔ (if p then A else B) := by simp
theorem ite_ndec {p : Prop} [Decidable p] {A B : Prop} : (if (!decide p) = true then A else B) ↔ (if p then B else A) := by
  by_cases h : p <;> simp [h]
end
end Fx
namespace Fx
open PySem PySem.Spec PyProof.Rows L2
/-- one statement first; the rest stays folded -/
theorem seqI {t u : TS} {D : Ends} {σ : L2.St} {H : Hp} (h : ∀ K : L2.St → Hp → Prop, (∀ σ H, u D σ H → K σ H) → t { D with nx := K } σ H) : tSeq t u D σ H := h (u D) fun _ _ x => x
theorem ifI {tc : TT} {t u : TS} {D : Ends} {σ : L2.St} {H : Hp} (h : ∀ A B : Hp → Prop, (∀ H1, t D σ H1 → A H1) → (∀ H1, u D σ H1 → B H1) → tc σ H (fun b H1 => if b = true then A H1 else B H1)) : tIfS tc t u D σ H := h (t D σ) (u D σ) (fun _ x => x) (fun _ x => x)
theorem while_i {c : TT} {tb : TS} {D : Ends} {σ : L2.St} {H : Hp} (Pv : L2.St → Hp → Prop) (μ : L2.St → Hp → Nat) (h0 : Pv σ H)
    (hs : ∀ σ H, Pv σ H → ∀ A B : Hp → Prop, (∀ H1, tb { D with nx := fun σ' H' => Pv σ' H' ∧ μ σ' H' < μ σ H, ct := fun σ' H' => Pv σ' H' ∧ μ σ' H' < μ σ H, bk := D.nx } σ H1 → A H1) → (∀ H1, D.nx σ H1 → B H1) → c σ H fun b H1 => if b = true then A H1 else B H1) : tWhile c tb D σ H := by
  refine ⟨fun m σ H => m = μ σ H ∧ Pv σ H, ⟨_, rfl, h0⟩, ?_⟩
  rintro m σ H ⟨rfl, p⟩
  exact hs σ H p _ _ (fun H1 t => ⟨fun σ' H' => Pv σ' H' ∧ μ σ' H' < μ σ H, fun σ' H' ⟨a, b⟩ => ⟨μ σ' H', b, rfl, a⟩, t⟩) (fun H1 x => x)
theorem forI {wi : TI} {g : TG} {tb : TS} {D : Ends} {σ : L2.St} {H : Hp} (h : ∀ R : It → Hp → Prop, (∀ J H1, (∃ W : Nat → Nat → L2.St → Hp → Prop, (∃ m, W 0 m σ H1) ∧ ∀ i m σ H, W i m σ H →
    (J.stop i H ∧ D.nx σ H) ∨ (J.go i H ∧ ∃ N : L2.St → Hp → Prop, (∀ σ' H', N σ' H' → ∃ m', m' < m ∧ W (i + 1) m' σ' H') ∧ ∀ x H', J.yld i H x H' → g x σ H' fun σ2 H2 => tb { D with nx := N, ct := N, bk := D.nx } σ2 H2)) → R J H1) → wi σ H R) : tFor wi g tb D σ H := h _ fun _ _ x => x
theorem ite_i {c A B : Prop} [Decidable c] (h1 : c → A) (h2 : ¬ c → B) : if c then A else B := ite2 h1 h2
theorem sz {n : Nat} (h : n ≤ 100000) : n ≤ sizeLine := Nat.le_trans h (by decide)
end Fx
namespace Fx
open PySem PySem.Spec PyProof.Rows L2
theorem cx_K {CX : CXT} {P : Program} {w : World} {K : PySem.W.Frag} {mg : Str → Option Value} {base : Heap} {N : List Str} {qual : Str} {scope : Scope} {f : Addr} {cd : Value} {A : Around} {outer : List Env} {s : Shared} {H : Hp} {E : XK} :
    (cxOf CX P w K mg base N qual scope f cd A outer s H E).K = K := rfl
end Fx
/-! Rules whose readings ask the tracked heap alone -/
namespace Fx
open PySem PySem.Spec PyProof.Rows L2
section
variable {X : Cx}
theorem IxR.imp {r r' : R2} (h : IxR X r) (i : ∀ x y H Q, r' x y H Q → r x y H Q) : IxR X r' := by
  intro value slice pins s σ H x y v u Q I rx ry q e
  exact h value slice pins s σ H x y v u Q I rx ry (i _ _ _ _ q) e
theorem CallR.imp {f : Value} {r r' : List V → Hp → VK → Prop} (h : CallR X f r) (i : ∀ xs H Q, r' xs H Q → r xs H Q) : CallR X f r' := fun pins s σ H xs us Q I rx q => h pins s σ H xs us Q I rx (i _ _ _ q)
theorem SlR.imp {r r' : V → Option Int → Option Int → Hp → VK → Prop} (h : SlR X r) (i : ∀ x lo hi H Q, r' x lo hi H Q → r x lo hi H Q) : SlR X r' := by
  intro pins s σ H x v vl vu lo hi sl Q I rx hs pl pu q
  exact h pins s σ H x v vl vu lo hi sl Q I rx hs pl pu (i _ _ _ _ _ q)
/-- xs[i], a tracked list | tuple -/
def rIxLt : R2 := fun x y H Q => ∃ p i xs, x = .ref p ∧ y = .int i ∧ H p = some (.lst xs) ∧ ∃ v, atI xs i = some v ∧ Q v H
def rIxTt : R2 := fun x y H Q => ∃ p i xs, x = .ref p ∧ y = .int i ∧ H p = some (.tup xs) ∧ ∃ v, atI xs i = some v ∧ Q v H
theorem ix_L : IxR X rIxLt := IxR.imp ix_list fun x y H Q ⟨p, i, xs, e1, e2, h, v, a, q⟩ => ⟨p, xs, i, v, e1, e2, .inl (.inl h), a, q⟩
theorem ix_T : IxR X rIxTt := IxR.imp ix_tup fun x y H Q ⟨p, i, xs, e1, e2, h, v, a, q⟩ => ⟨p, xs, i, v, e1, e2, .inl (.inl h), a, q⟩
/-- s[i] -/
def rIxSt : R2 := fun x y H Q => ∃ z i, x = .str z ∧ y = .int i ∧ z.length ≤ sizeLine ∧ ∃ c, atI z.cps.toList i = some c ∧ Q (.str ⟨#[c]⟩) H
theorem ix_S : IxR X rIxSt := IxR.imp ix_str fun x y H Q ⟨z, i, e1, e2, h, v, a, q⟩ => ⟨z, i, v, e1, e2, h, a, q⟩
/-- len(xs) -/
def rLenL : List V → Hp → VK → Prop := fun xs H Q => ∃ p ys, xs = [.ref p] ∧ H p = some (.lst ys) ∧ Q (.int ys.length) H
def rLenT : List V → Hp → VK → Prop := fun xs H Q => ∃ p ys, xs = [.ref p] ∧ H p = some (.tup ys) ∧ Q (.int ys.length) H
theorem len_L : CallR X (.builtin "len") rLenL := CallR.imp call_len_seq fun xs H Q ⟨p, ys, e, h, q⟩ => ⟨p, ys, e, .inl (.inl (.inl h)), q⟩
theorem len_T : CallR X (.builtin "len") rLenT := CallR.imp call_len_seq fun xs H Q ⟨p, ys, e, h, q⟩ => ⟨p, ys, e, .inr (.inl (.inl h)), q⟩
def rLenS : List V → Hp → VK → Prop := fun xs H Q => ∃ z, xs = [.str z] ∧ z.length ≤ sizeLine ∧ Q (.int z.length) H
theorem len_S : CallR X (.builtin "len") rLenS := call_len_str
/-- int(n) -/
def rIntI : List V → Hp → VK → Prop := fun xs H Q => ∃ i, xs = [.int i] ∧ Q (.int i) H
theorem int_I : CallR X (.type "int") rIntI := CallR.imp call_int1 fun xs H Q h => .inl h
def rOrd : List V → Hp → VK → Prop := fun xs H Q => ∃ x, xs = [.str x] ∧ x.length = 1 ∧ Q (.int (x.cps.getD 0 0 : Nat)) H
theorem ord_S : CallR X (.builtin "ord") rOrd := call_ord
/-- xs[a:b] -/
def rSlLt : V → Option Int → Option Int → Hp → VK → Prop := fun x lo hi H Q => ∃ a xs, x = .ref a ∧ H a = some (.lst xs) ∧ ∀ p, H p = none → Q (.ref p) (upd H p (.lst (cutV xs lo hi)))
theorem sl_L : SlR X rSlLt := SlR.imp sl_list fun x lo hi H Q ⟨a, xs, e, h, q⟩ => ⟨a, xs, e, .inl (.inl h), q⟩
/-- list(t), list(xs) -/
def rLstL : List V → Hp → VK → Prop := fun xs H Q => ∃ p ys, xs = [.ref p] ∧ H p = some (.lst ys) ∧ ∀ l, H l = none → Q (.ref l) (upd H l (.lst ys))
def rLstT : List V → Hp → VK → Prop := fun xs H Q => ∃ p ys, xs = [.ref p] ∧ H p = some (.tup ys) ∧ ∀ l, H l = none → Q (.ref l) (upd H l (.lst ys))
theorem list_L : CallR X (.type "list") rLstL := CallR.imp call_list_of fun xs H Q ⟨p, ys, e, h, q⟩ => ⟨p, ys, e, .inl (.inl (.inl h)), q⟩
theorem list_T : CallR X (.type "list") rLstT := CallR.imp call_list_of fun xs H Q ⟨p, ys, e, h, q⟩ => ⟨p, ys, e, .inr (.inl (.inl h)), q⟩
/-- all(xs), any(xs) of truth values -/
def rAllL : List V → Hp → VK → Prop := fun vs H Q => ∃ (a : Addr) (bs : List Bool), vs = [V.ref a] ∧ H a = some (.lst (bs.map V.bl)) ∧ Q (.bl (bs.all id)) H
def rAnyL : List V → Hp → VK → Prop := fun vs H Q => ∃ (a : Addr) (bs : List Bool), vs = [V.ref a] ∧ H a = some (.lst (bs.map V.bl)) ∧ Q (.bl (bs.any id)) H
theorem all_L (hc : X.calm = true) : CallR X (.builtin "all") rAllL := CallR.imp (cr_all hc) fun xs H Q ⟨p, ys, e, h, q⟩ => ⟨p, ys, e, .inl (.inl h), q⟩
theorem any_L (hc : X.calm = true) : CallR X (.builtin "any") rAnyL := CallR.imp (cr_any hc) fun xs H Q ⟨p, ys, e, h, q⟩ => ⟨p, ys, e, .inl (.inl h), q⟩
/-- s * n -/
def rMulS : R2 := fun x y H Q => ∃ z n, x = .str z ∧ y = .int n ∧ 0 ≤ n ∧ n ≤ 1000000 ∧ z.length * n.toNat ≤ 1000000 ∧ Q (.str (Txt.mul z n)) H
theorem mulOk_of {z : Str} {n : Int} (h0 : 0 ≤ n) (h : z.length * n.toNat ≤ 1000000) (hn : z.length ≠ 0 → n ≤ 1000000) (h63 : n < 2 ^ 63) : MulOk z n := by
  refine ⟨?_, fun h1 h2 => ?_, fun h1 h2 => ?_⟩
  · have a : ¬ n < -(2 ^ 63 : Int) := by omega
    have b : ¬ n ≥ 2 ^ 63 := by omega
    simp only [decide_eq_false a, decide_eq_false b, Bool.or_self]
  · simp only [Bool.or_eq_false_iff, beq_eq_false_iff_ne] at h2
    have hz := hn h2.2
    have hl : z.length ≤ 1000000 := Nat.le_trans (Nat.le_mul_of_pos_right _ (by omega)) h
    have : (2 ^ 63 - 1) / n ≥ 1000000 := by
      apply (Int.le_ediv_iff_mul_le (by omega)).mpr
      have : 1000000 * n ≤ 1000000 * 1000000 := Int.mul_le_mul_of_nonneg_left hz (by decide)
      omega
    omega
  · unfold Builtin.Str.tooLong
    rw [decide_eq_false_iff_not, sizeLine_eq]
    omega
theorem op_mul_str : OpR X (binaryOp .Mult) rMulS := by
  intro pins s σ H x y v u Q I rx ry h
  obtain ⟨z, n, rfl, rfl, h0, h1, hl, q⟩ := h
  obtain ⟨t, rfl⟩ := rx
  obtain ⟨t', rfl⟩ := ry
  exact SB.mul (mulOk_of h0 hl (fun _ => h1) (by omega)) fun t' k => ⟨.str (Txt.mul z n), H, I.tok _, ⟨_, rfl⟩, q⟩
end
/-! ### for i, c in enumerate(text) -/
def Ites (z : Str) : It :=
  ⟨fun i _ => i < z.cps.size, fun i H v H' => ∃ T c, v = .ref T ∧ H T = none ∧ H' = upd H T (.tup [.int (i : Nat), .str ⟨#[c]⟩]) ∧ z.cps[i]? = some c, fun i _ => z.cps.size ≤ i⟩
theorem strDraws {P : Program} {w : World} {A : Around} (hh : A.handled = none) (it : Addr) (x : Str) (t : Tok) : Draws P w A it [it] x.cps.size (fun i v => ∃ c u, x.cps[i]? = some c ∧ v = .str ⟨#[c]⟩ u) (fun i h => h.IsStrIter it (strIterType x) x t i) := by
  have e : strIterType x = "str_ascii_iterator" ∨ strIterType x = "str_iterator" := by
    unfold strIterType
    split
    · exact .inl rfl
    · exact .inr rfl
  rcases e with e | e
  · rw [e]; exact Draws.strAscii hh it x t
  · rw [e]; exact Draws.strWide hh it x t
theorem turn_enumS {P : Program} {w : World} {K : PySem.W.Frag} {elts : List Expr} {kk : Nat} {tpos : Pos} (x : Str) (t : Tok) (e it : Addr) :
    Turn P w K (.Tuple elts kk tpos) (Ites x) [e, it] e (fun i h => (∃ old, IsEnum h e it ((i : Nat) : Int) old) ∧ h.IsStrIter it (strIterType x) x t i ∧ i ≤ x.cps.size ∧ e ≠ it) where
  mem := by simp
  obj := fun i h st b hb => by
    obtain ⟨⟨old, he⟩, ⟨o, ho, hc, hd⟩, _⟩ := st
    have e' : b = e ∨ b = it := by simpa using hb
    rcases e' with z | z
    · rw [z]; exact ⟨_, he, fun v q => nomatch q⟩
    · rw [z]; exact ⟨o, ho, fun v q => by rw [hd] at q; cases q⟩
  keep := fun i h h' st k => let ⟨⟨old, he⟩, ⟨o, ho, hr⟩, hi, hne⟩ := st; ⟨⟨old, k e (by simp) _ he⟩, ⟨o, k it (by simp) o ho, hr⟩, hi, hne⟩
  item := by
    intro X hP hw hK hc i pins s σ H E I hf st hg
    subst hP hw hK
    obtain ⟨⟨old, he⟩, hit, hi, hne⟩ := st
    have hel : e < s.heap.objs.size := Heap.lt_size he
    have hil : it < s.heap.objs.size := by obtain ⟨_, q, _⟩ := hit; exact Heap.lt_size q
    have D := strDraws (P := X.prog) (w := X.w) (A := X.A.in1) (show X.A.in1.handled = none from I.ok.hd hc) it x t
    refine wpAny_pyNext_enum_itemD D he hit hg hne (by simpa using hne) fun u h' tk hu ho hit' hT hsz hk => ?_
    obtain ⟨c, tc, hcx, rfl⟩ := hu
    refine ⟨_, rfl, wpAny_letOwnedTupleGo_enum (s := { s with heap := h', toks := tk + 1 }) ho fun h'' he' sb => ?_⟩
    have hT2 : h''.get? s.heap.objs.size = some { cls := .type "tuple", data := .seq #[.int i tk, .str ⟨#[c]⟩ tc] } := (sb.2 _ (Nat.ne_of_gt hel)).trans hT
    have new : ObjOk X.prog X.w (upd H s.heap.objs.size (.tup [.int (i : Nat), .str ⟨#[c]⟩])) h'' s.heap.objs.size (.tup [.int (i : Nat), .str ⟨#[c]⟩]) :=
      ⟨by show 2 ≤ sizeLine; decide, [.int i tk, .str ⟨#[c]⟩ tc], .cons ⟨_, rfl⟩ (.cons ⟨_, rfl⟩ .nil), ⟨_, hT2, rfl, _, rfl⟩⟩
    have I1 : Inv X pins σ (upd H s.heap.objs.size (.tup [.int (i : Nat), .str ⟨#[c]⟩])) { s with heap := h'', toks := tk + 1 } :=
      I.turnedNew (ch := [e, it]) (fun b ob hb q => (sb.2 b (fun z => hb (by simp [z]))).trans (hk b ob (fun z => hb (by simp [z])) (fun z => hb (by simp [z])) q)) hf (Nat.le_refl _) new
    refine ⟨.ref s.heap.objs.size, _, I1, rfl, ⟨_, c, rfl, I.hok.fresh (Nat.le_refl _), rfl, hcx⟩, ⟨⟨.str ⟨#[c]⟩ tc, ?_⟩, ?_, hg, hne⟩, fun b hb => ?_⟩
    · have e1 : ((i + 1 : Nat) : Int) = (i : Int) + 1 := by omega
      rw [e1]; exact he'
    · obtain ⟨o, ho2, hr⟩ := hit'
      exact ⟨o, (sb.2 it (Ne.symm hne)).trans ho2, hr⟩
    · have hb' : b < s.heap.objs.size := by
        have e' : b = e ∨ b = it := by simpa using hb
        rcases e' with z | z
        · rw [z]; exact hel
        · rw [z]; exact hil
      rw [upd_ne (Nat.ne_of_lt hb')]
      exact (hf b hb).1
  done := by
    intro X hP hw hK hc i pins s σ H E I hf st hg
    subst hP hw hK
    obtain ⟨⟨old, he⟩, hit, hi, hne⟩ := st
    have ei : i = x.cps.size := Nat.le_antisymm hi hg
    subst ei
    obtain ⟨f0, f1, f2, f3, f4, f5⟩ := hf it (by simp)
    have D := strDraws (P := X.prog) (w := X.w) (A := X.A.in1) (show X.A.in1.handled = none from I.ok.hd hc) it x t
    exact wpAny_pyNext_enum_endD D he hit fun h' eb => ⟨rfl, I.turned (t' := s.toks) (fun b o hb q => eb b o hb q) f0 f1 f3 f4 f5⟩
  self := fun A i s Q E st h => let ⟨⟨_, he⟩, _⟩ := st; wpAny_pyIter_enum he h
def iEnumS (ta : TA) : TI := fun σ H R => ta σ H fun vs H1 => ∃ z, vs = [.str z] ∧ R (Ites z) H1
theorem pi_enumS {X : Cx} {e : Expr} {ta : TA} {p pos tpos : Pos} {elts : List Expr} {kk : Nat} (hg : Gl X "enumerate") (hm : X.mg "enumerate" = none) (ha : PA X [e] ta) (hs : starEach [e] X.env = [(false, eval e X.env)] := by rfl) :
    PI X (.Tuple elts kk tpos) (.Call (.Name "enumerate" p) [e] [] pos) (iEnumS ta) := by
  refine ⟨fun pins s σ H R I h => ?_⟩
  refine Call_ (ld_blt I hg hm boot_enumerate (PyProof.Rows.callWith_type1 (thn (ha.run pos pins s σ H _ I h) fun us s1 ⟨vs, H1, I1, r1, q1⟩ => ?_) hs rfl))
  obtain ⟨z, ex, q⟩ := q1
  subst ex
  cases r1 with
  | cons r rr =>
    cases rr
    obtain ⟨t, rfl⟩ := r
    refine call_enumerate_str fun h' he hit hsz hk => wpAny_pyIter_enum he ?_
    have I2 : Inv X pins σ H1 { s1 with heap := h' } := I1.kept (t' := s1.toks) hk
    refine ⟨s1.heap.objs.size + 1, [s1.heap.objs.size + 1, s1.heap.objs.size], _, _, H1, rfl, I2, turn_enumS z t (s1.heap.objs.size + 1) s1.heap.objs.size, ⟨⟨.none, he⟩, hit, Nat.zero_le _, Nat.succ_ne_self _⟩, fun b hb => ?_, q⟩
    have e' : b = s1.heap.objs.size + 1 ∨ b = s1.heap.objs.size := by simpa using hb
    have hle : s1.heap.objs.size ≤ b := by
      rcases e' with z | z
      · rw [z]; exact Nat.le_add_right _ _
      · rw [z]; exact Nat.le_refl _
    exact I1.fpOk hle (I1.hok.fresh hle)
/-- the loop over enumerate(text), by an invariant -/
theorem for_enumS {z : Str} {g : TG} {tb : TS} {D : Ends} {σ : L2.St} {H1 : Hp} (Pv : Nat → L2.St → Hp → Prop) (h0 : Pv 0 σ H1)
    (hs : ∀ i c T σ H, z.cps[i]? = some c → Pv i σ H → H T = none → g (.ref T) σ (upd H T (.tup [.int (i : Nat), .str ⟨#[c]⟩])) fun σ' H' => tb { nx := fun σ H => Pv (i + 1) σ H, rt := D.rt, bk := D.nx, ct := fun σ H => Pv (i + 1) σ H } σ' H')
    (hd : ∀ σ H, Pv z.cps.size σ H → D.nx σ H) : ∃ W : Nat → Nat → L2.St → Hp → Prop, (∃ m, W 0 m σ H1) ∧ ∀ i m σ H, W i m σ H →
      ((Ites z).stop i H ∧ D.nx σ H) ∨ ((Ites z).go i H ∧ ∃ N : L2.St → Hp → Prop, (∀ σ' H', N σ' H' → ∃ m', m' < m ∧ W (i + 1) m' σ' H') ∧ ∀ x H', (Ites z).yld i H x H' → g x σ H' fun σ2 H2 => tb { nx := N, rt := D.rt, bk := D.nx, ct := N } σ2 H2) := by
  refine ⟨fun i m σ H => m = z.cps.size - i ∧ i ≤ z.cps.size ∧ Pv i σ H, ⟨_, rfl, Nat.zero_le _, h0⟩, ?_⟩
  rintro i m σ H ⟨rfl, hi, p⟩
  by_cases hlt : i < z.cps.size
  · refine .inr ⟨hlt, fun σ' H' => Pv (i + 1) σ' H', fun σ' H' q => ⟨z.cps.size - (i + 1), by omega, rfl, hlt, q⟩, fun x H' hy => ?_⟩
    obtain ⟨T, c, rfl, nT, rfl, hc⟩ := hy
    exact hs i c T σ H hc p nT
  · have ei : i = z.cps.size := by omega
    subst ei
    exact .inl ⟨Nat.le_refl _, hd σ H p⟩
end Fx
/-! == of flat lists; isinstance of built-in classes -/
namespace Fx
open PySem PySem.Spec PyProof.Rows L2
/-- None, an int, a text: two of these are equal in Python just if they are the same -/
def isF : V → Bool
  | .non => true
  | .int _ => true
  | .str x => PyData.strOk x
  | _ => false
def datV : V → PyData
  | .non => .none
  | .int i => .int i
  | .str x => .str x
  | _ => .none
theorem eqv_dat {x y : V} (hx : isF x = true) (hy : isF y = true) : PyData.eqv (datV x) (datV y) = decide (x = y) := by
  cases x <;> cases y <;> first | (exfalso; revert hx; simp [isF]; done) | (exfalso; revert hy; simp [isF]; done) | (simp [datV, PyData.eqv]; done) | (simp only [datV, PyData.eqv, V.int.injEq, V.str.injEq]; exact Bool.eq_iff_iff.mpr (by simp)) 
theorem eqvAll_dat : ∀ {xs ys : List V}, xs.all isF = true → ys.all isF = true → PyData.eqvAll (xs.map datV) (ys.map datV) = decide (xs = ys)
  | [], [], _, _ => by simp [PyData.eqvAll]
  | [], _ :: _, _, _ => by simp [PyData.eqvAll]
  | _ :: _, [], _, _ => by simp [PyData.eqvAll]
  | x :: xs, y :: ys, hx, hy => by
    simp only [List.all_cons, Bool.and_eq_true] at hx hy
    simp only [List.map_cons, PyData.eqvAll, eqv_dat hx.1 hy.1, eqvAll_dat hx.2 hy.2]
    by_cases e : x = y <;> simp [e]
theorem dp_dat {K : PySem.W.Frag} {H : Hp} {x : V} (hx : isF x = true) : Dp K H x (datV x) := by
  cases x <;> first | (exfalso; revert hx; simp [isF]; done) | exact .non | exact .int _ | exact .str _
theorem dpAll_dat {K : PySem.W.Frag} {H : Hp} : ∀ {xs : List V}, xs.all isF = true → DpAll K H xs (xs.map datV)
  | [], _ => .nil
  | x :: xs, hx => by
    simp only [List.all_cons, Bool.and_eq_true] at hx
    exact .cons (dp_dat hx.1) (dpAll_dat hx.2)
theorem lay_flat : ∀ {xs : List V}, xs.all isF = true → PyData.canLayAll0 (xs.map datV) = true ∧ PyData.depthAll (xs.map datV) = 0
  | [], _ => by simp [PyData.canLayAll0, PyData.depthAll]
  | x :: xs, hx => by
    simp only [List.all_cons, Bool.and_eq_true] at hx
    obtain ⟨h1, h2⟩ := lay_flat hx.2
    have h3 : PyData.canLay0 (datV x) = true ∧ PyData.depth (datV x) = 0 := by
      have hx1 := hx.1
      cases x <;> first | (exfalso; revert hx1; simp [isF]; done) | exact ⟨by simpa [datV, PyData.canLay0, isF] using hx1, by simp [datV, PyData.depth]⟩
    simp [PyData.canLayAll0, PyData.depthAll, h1, h2, h3.1, h3.2]
theorem shaped_flat {xs : List V} (hx : xs.all isF = true) : SeqAt.shaped (.list (xs.map datV)) = true := by
  obtain ⟨h1, h2⟩ := lay_flat hx
  simp [SeqAt.shaped, PyData.canLay0, PyData.depth, h1, h2]
def rEqL : R2 := fun x y H Q => ∃ p q xs ys, x = .ref p ∧ y = .ref q ∧ H p = some (.lst xs) ∧ H q = some (.lst ys) ∧ xs.all isF = true ∧ ys.all isF = true ∧ Q (.bl (decide (xs = ys))) H
theorem eq_LL {X : Cx} (hu : X.A.units + 64 < cLine) : OpR X (compareOp .Eq) rEqL := by
  intro pins s σ H x y v u Q I rx ry h
  obtain ⟨p, q, xs, ys, rfl, rfl, hp, hq, fx, fy, k⟩ := h
  refine op_eqD hu pins s σ H _ _ v u Q I rx ry ⟨.list (xs.map datV), .list (ys.map datV), .lst (.inl (.inl hp)) (dpAll_dat fx), .lst (.inl (.inl hq)) (dpAll_dat fy), shaped_flat fx, shaped_flat fy, ?_⟩
  rw [PyData.eqv, eqvAll_dat fx fy]
  exact k
/-- what built-in type a value is of -/
def tyv (H : Hp) : V → Option String
  | .non => some "NoneType"
  | .bl _ => some "bool"
  | .int _ => some "int"
  | .str _ => some "str"
  | .byt _ => some "bytes"
  | .ref a => (match H a with
    | some (.lst _) => some "list"
    | some (.tup _) => some "tuple"
    | some (.dK _) => some "dict"
    | some (.dT _) => some "dict"
    | _ => none)
  | _ => none
theorem tyv_ok {K : PySem.W.Frag} {H : Hp} {x : V} {t : String} (h : tyv H x = some t) : TyX K H x (.type t) := by
  cases x with
  | non => cases h; exact .base .non
  | bl b => cases h; exact .base (.bl b)
  | int i => cases h; exact .base (.int i)
  | str z => cases h; exact .base (.str z)
  | byt b => cases h; exact .byt b
  | flt b => cases h
  | ty n => cases h
  | ref a =>
    simp only [tyv] at h
    cases e : H a with
    | none => simp only [e] at h; cases h
    | some o =>
      simp only [e] at h
      cases o <;> first | (cases h; done) | (cases h; exact .base (.lst e)) | (cases h; exact .base (.tup e)) | (cases h; exact .base (.dK e)) | (cases h; exact .base (.dT e))
section
variable {H : Hp} {a : Addr} {xs : List V} {kvs : List (Key × V)}
theorem tyv_non : tyv H .non = some "NoneType" := rfl
theorem tyv_bl {b : Bool} : tyv H (.bl b) = some "bool" := rfl
theorem tyv_int {i : Int} : tyv H (.int i) = some "int" := rfl
theorem tyv_str {z : Str} : tyv H (.str z) = some "str" := rfl
theorem tyv_lst (h : H a = some (.lst xs)) : tyv H (.ref a) = some "list" := by simp only [tyv, h]
theorem tyv_tup (h : H a = some (.tup xs)) : tyv H (.ref a) = some "tuple" := by simp only [tyv, h]
theorem tyv_dK (h : H a = some (.dK kvs)) : tyv H (.ref a) = some "dict" := by simp only [tyv, h]
end
def rIsB : List V → Hp → VK → Prop := fun xs H Q => ∃ x n, xs = [x, .ty n] ∧ ∃ t, tyv H x = some t ∧ ∃ b, kitB t n = some b ∧ Q (.bl b) H
theorem is_B {X : Cx} : CallR X (.builtin "isinstance") rIsB := CallR.imp call_isi fun xs H Q ⟨x, n, e, t, ht, b, hb, q⟩ => ⟨x, .ty n, .type t, .type n, b, e, .ty n, tyv_ok ht, kit_ty hb, q⟩
theorem kb_int_int : kitB "int" "int" = some true := by decide +kernel
theorem kb_int_bool : kitB "int" "bool" = some false := by decide +kernel
theorem kb_bool_int : kitB "bool" "int" = some true := by decide +kernel
theorem kb_bool_bool : kitB "bool" "bool" = some true := by decide +kernel
theorem kb_str_str : kitB "str" "str" = some true := by decide +kernel
theorem kb_int_str : kitB "int" "str" = some false := by decide +kernel
theorem kb_bool_str : kitB "bool" "str" = some false := by decide +kernel
theorem kb_none_str : kitB "NoneType" "str" = some false := by decide +kernel
theorem kb_list_str : kitB "list" "str" = some false := by decide +kernel
theorem kb_tuple_str : kitB "tuple" "str" = some false := by decide +kernel
theorem kb_dict_str : kitB "dict" "str" = some false := by decide +kernel
theorem kb_tuple_tuple : kitB "tuple" "tuple" = some true := by decide +kernel
theorem kb_list_list : kitB "list" "list" = some true := by decide +kernel
end Fx
/-! A def whose body begins with a token out (for str.replace): with cells too -/
namespace Fx
open PySem PySem.Spec PyProof.Rows L2
section
variable {M : Model} {A : Around} {E : Value → Shared → Prop} {s₀ s : Shared} {m cm : Str → Option Value} {env : Env}
theorem stLCT {n : Str} {v : Value} {Q : Unit → Shared → Prop} (x : InCallC s₀ env.locals m env.cells cm s) (hk : env.scope.kind = .function) (hl : env.kindOf n = some .local)
    (h : ∀ s', InCallC s₀ env.locals (fun y => if y = n then some v else m y) env.cells cm s' → 1 ≤ s'.toks → Q () s') : wpAny M A (storeName env n v) Q E s := by
  refine wpAny_storeName_local hl x.toInCall.ns (fun h' hn' hs' => h _ ⟨⟨?_, hn', fun b o e => ?_, x.toInCall.fresh⟩, fun k c hc => ?_, x.apart, x.above⟩ (Nat.le_add_left _ _)) (by rw [hk]; rfl)
  · obtain ⟨h₁, tk, rfl⟩ := x.toInCall.same
    exact ⟨h', _, rfl⟩
  · exact hs'.extBut b o (Nat.ne_of_lt (Nat.lt_of_lt_of_le (Heap.lt_size e) x.toInCall.fresh)) (x.toInCall.keep b o e)
  · exact (x.cell k c hc).sameBut hs' (Nat.ne_of_gt (x.above k c (mem_of_lookup hc)))
theorem bindParamsT (f : Str × Value → PUnit → Sem (ForInStep PUnit)) (hf : ∀ n v u, f (n, v) u = (do storeName env n v; pure (.yield ⟨⟩))) (hk : env.scope.kind = .function)
    (n : Str) (v : Value) (r : List (Str × Value)) (hl : env.kindOf n = some .local) (m cm : Str → Option Value) (s : Shared) (Q : PUnit → Shared → Prop) (x : InCallC s₀ env.locals m env.cells cm s)
    (hkind : ∀ y ∈ r, env.kindOf y.1 = some .local ∨ (env.kindOf y.1 = some .cell ∧ (env.cells.lookup y.1).isSome = true))
    (h : ∀ s', InCallC s₀ env.locals (bindL env.kindOf ((n, v) :: r) m) env.cells (bindC env.kindOf ((n, v) :: r) cm) s' → 1 ≤ s'.toks → Q ⟨⟩ s') : wpAny M A (forIn ((n, v) :: r) ⟨⟩ f) Q E s := by
  rw [List.forIn_cons, hf]
  refine wpAny_bind (wpAny_bind (stLCT x hk hl fun s' x' ht => wpAny_pure ?_))
  refine wpAny_with_toks ht (wpAny_bindParams f hf hk r _ _ s' (fun u s'' => 1 ≤ s''.toks → Q u s'') x' hkind fun s'' x'' ht' => h s'' ?_ ht')
  unfold bindL bindC
  rw [if_pos hl, if_pos hl]
  exact x''
end
section
variable {M : Model} {A : Around} {E : Value → Shared → Prop} {s : Shared}
theorem newFunctionEnvT {scope : Scope} {globals : Addr} {n : Str} {v : Value} {r : List (Str × Value)} {qual : Str} {func : Option Addr} {code : Value} {builtins : Addr} {Q : Env → Shared → Prop}
    (hk : scope.kind = .function) (hl : scope.names.lookup n = some .local)
    (hkind : ∀ x ∈ r, scope.names.lookup x.1 = some .local ∨ (scope.names.lookup x.1 = some .cell ∧ ((cellsFrom (s.heap.objs.size + 1) scope.names []).lookup x.1).isSome = true))
    (hQ : ∀ env, env = newEnv scope s.heap.objs.size globals (cellsFrom (s.heap.objs.size + 1) scope.names []) qual func code none builtins →
      ∀ s', InCallC s env.locals (bindL env.kindOf ((n, v) :: r) fun _ => none) env.cells (bindC env.kindOf ((n, v) :: r) fun _ => none) s' → 1 ≤ s'.toks → Q env s') :
    wpAny M A (newFunctionEnv scope globals [] ((n, v) :: r) qual func code none builtins) Q E s := by
  simp only [newFunctionEnv, Option.isSome_none, Bool.false_eq_true, if_false]
  refine wpAny_bind (wpAny_alloc ?_)
  refine wpAny_bind (wpAny_layCells _ (fun name kind cells => by cases hkc : kind == NameKind.cell <;> simp [hkc]) _ _ _ _ ?_)
  have ok := cellsFrom_ok scope.names (s.heap.push { cls := .type "frame", data := .dict #[] }) (s.heap.objs.size + 1) [] ⟨fun _ _ hm => (nomatch hm), List.Pairwise.nil⟩ (by rw [Heap.size_push]; exact Nat.le_refl _)
  rw [Heap.size_push] at ok
  rw [show ({ s with heap := s.heap.push { cls := .type "frame", data := .dict #[] } } : Shared).heap.objs.size = s.heap.objs.size + 1 from Heap.size_push ..]
  refine wpAny_bind (bindParamsT (s₀ := s) (env := newEnv scope s.heap.objs.size globals (cellsFrom (s.heap.objs.size + 1) scope.names []) qual func code none builtins)
    _ (fun _ _ _ => rfl) hk n v r hl (fun _ => none) (fun _ => none) _ _
    ⟨⟨⟨_, _, rfl⟩, (Heap.Ns.new s.heap (.type "frame")).keeps (pushCells_keeps _ _), fun b o e => pushCells_keeps _ _ b o (Heap.get?_push_of_some _ e), Nat.le_refl _⟩,
      fun n c hc => (ok.empty n c (mem_of_lookup hc)).1, ok.apart, fun n c hm => (ok.empty n c hm).2⟩
    hkind fun s' x ht => wpAny_pure (hQ _ rfl s' x ht))
end
/-- a def's body, a token out when it begins; its first parameter is a local -/
theorem fn_ofTC {CX : CXT} {P : Program} {w : World} {K : PySem.W.Frag} {mg : Str → Option Value} {base : Heap} {k : Nat} {f : Addr} {name qual : Str} {params : Arguments} {body : List Stmt} {scope : Scope} {dV kV doc pm cdv ct oc : Value} {an od : Option Addr}
    {osl : Array (Option Value)} {N ps : List Str} {x0 : Str} {sp : Sp} (lk : K.lookup f = some ⟨oc, od, .func (PySem.W.fnOf name qual params body scope dV kV doc pm an cdv ct), osl⟩) (hcd : PySem.W.codeIn K cdv qual = true) (S : FnScope N (x0 :: ps) scope)
    (h0 : scope.names.lookup x0 = some .local) (len : ∀ vs H Q E, sp vs H Q E → vs.length = (x0 :: ps).length)
    (hbody : ∀ (A : Around) (outer : List Env) (s : Shared) (H : Hp) (vs : List V) (Q : VK) (E : XK), Room k (A.deeper (envOfC qual scope s.heap.objs.size f cdv)) → sp vs H Q E →
      ∃ t, PSsT (cxOf CX P w K mg base N qual scope f cdv A outer s H E) body t ∧ t { nx := fun _ H' => Q .non H', rt := Q } (L2.start N vs) H) :
    FnOk P w K mg base CX (k + 1) f (PySem.W.fnOf name qual params body scope dV kV doc pm an cdv ct) (x0 :: ps) sp := by
  refine ⟨len, fun A outer s H args us vs Q E hr e0 hb r hsp => ?_⟩
  have hl := len _ _ _ _ hsp
  have KX : K.In s.heap := e0.mod.kin.keeps fun b o e => (e0.bs b o e).1
  have lim : s.heap.NoLimit := e0.mod.nolimit.keeps fun b o e => (e0.bs b o e).1
  have hul : us.length = (x0 :: ps).length := by rw [← r.length, hl]
  obtain ⟨u0, ur, rfl⟩ : ∃ u0 ur, us = u0 :: ur := by
    cases us with
    | nil => cases hul
    | cons a b => exact ⟨a, b, rfl⟩
  have hkind : ∀ y ∈ ps.zip ur, scope.names.lookup y.1 = some .local ∨ (scope.names.lookup y.1 = some .cell ∧ ((cellsFrom (s.heap.objs.size + 1) scope.names []).lookup y.1).isSome = true) := fun ⟨n, v⟩ hy => by
    rcases S.par n (List.mem_cons_of_mem _ (List.of_mem_zip hy).1) with q | q
    · exact .inl q
    · exact .inr ⟨q, PySem.W.cellsFrom_some _ _ _ (.inl q)⟩
  refine codeAny_call_function hr.depth (KX _ _ lk) rfl S.co S.gen rfl (PySem.W.codeRec_of KX hcd) (hb _ _ _ _ ?_)
  show wpAny _ _ (newFunctionEnv scope _ [] ((x0, u0) :: ps.zip ur) _ _ _ _ _) _ _ _
  refine newFunctionEnvT S.kind h0 hkind fun env he s1 x ht => ?_
  subst he
  refine ⟨lim.keeps x.toInCall.keep, codeAny_func ?_⟩
  obtain ⟨t, hT, hq⟩ := hbody A outer s H vs Q E (hr.deeper _) hsp
  have I : Inv (cxOf CX P w K mg base N qual scope f cdv A outer s H E) [] (L2.start N vs) H s1 := inv_start S hr.hd e0 hl r x
  refine wpAny_mono (hT [] s1 (L2.start N vs) H _ ht I hq) (fun fl s' hs => ?_) fun e s' hs => hs
  have fin : ∀ {σ' : L2.St} {H' : Hp} {v : V} {u : Value}, Inv (cxOf CX P w K mg base N qual scope f cdv A outer s H E) [] σ' H' s' → RelV v u → Q v H' → CE outer P w H s Q u s' :=
    fun {σ' H' v u} J rv q => ⟨v, H', J.os, J.bare, J.base, J.hok, rv, q⟩
  cases fl with
  | ret u =>
    obtain ⟨v, σ', H', J, rv, q⟩ := hs
    exact fin J rv q
  | next =>
    obtain ⟨σ', H', J, q⟩ := hs
    exact fin (v := V.non) (u := Value.none) J rfl q
  | brk =>
    obtain ⟨_, _, _, q⟩ := hs
    exact False.elim q
  | cont =>
    obtain ⟨_, _, _, q⟩ := hs
    exact False.elim q
/-! ### tests, calls, slices with a token out -/
section
variable {X : Cx}
def PTT (X : Cx) (e : Expr) (t : TT) : Prop := ∀ (pins : List (Addr × Obj)) (s : Shared) (σ : L2.St) (H : Hp) (Q : Bool → Hp → Prop), 1 ≤ s.toks → Inv X pins σ H s → t σ H Q → wpAny (model X.prog X.w) X.A (isTrue e X.env (eval e X.env)) (TP X pins σ Q) X.xe s
def PWT (X : Cx) (e : Expr) (t : TT) : Prop := ∀ (whole : Sem Value) (pins : List (Addr × Obj)) (s : Shared) (σ : L2.St) (H : Hp) (Q : Bool → Hp → Prop), 1 ≤ s.toks → Inv X pins σ H s → t σ H Q → wpAny (model X.prog X.w) X.A (isTrue e X.env whole) (TP X pins σ Q) X.xe s
theorem PWT.pt {e : Expr} {t : TT} (h : PWT X e t) : PTT X e t := h _
theorem ptt_val {e : Expr} {t : TE} (h : PET X e t) (he : ∀ whole, isTrue e X.env whole = (do let v ← whole; standAt e.pos; holding [v] (truthy v)) := by intro _; rfl) : PTT X e (tB t) := by
  intro pins s σ H Q ht I hw
  refine isTrue_plain (thn (h pins s σ H _ ht I hw) fun v s1 ⟨x, H1, I1, r1, q1⟩ => ?_) (he _)
  obtain ⟨d, rfl, q⟩ := q1
  cases r1
  exact wpAny_truthy_bool ⟨H1, I1, q⟩
theorem ptt_not {a : Expr} {tA : TT} {pos : Pos} (ha : PTT X a tA) : PTT X (.UnaryOp .Not a pos) (tNot tA) := by
  intro pins s σ H Q ht I h
  exact isTrue_not (ha pins s σ H (fun c H1 => Q (!c) H1) ht I h)
theorem pwt_or1 {a : Expr} {tA : TT} {pos : Pos} (ha : PTT X a tA) : PWT X (.BoolOp .Or [a] pos) tA := by
  intro wh pins s σ H Q ht I h
  refine isTrue_or (thn (ha pins s σ H Q ht I h) fun c s1 e => ?_)
  cases c with
  | false => exact isTrue_or_nil e
  | true => exact e
theorem pwt_or {a b : Expr} {rest : List Expr} {tA tB' : TT} {pos : Pos} (ha : PT X a tA) (hb : PWT X (.BoolOp .Or (b :: rest) pos) tB') : PWT X (.BoolOp .Or (a :: b :: rest) pos) (tOr tA tB') := by
  intro wh pins s σ H Q ht I h
  refine isTrue_or (wpAny_mono (wpAny_toks_of ht (ha.run pins s σ H _ I h)) (fun c s1 z => ?_) fun _ _ z => z.2)
  obtain ⟨ht1, H1, I1, q1⟩ := z
  cases c with
  | true => exact ⟨H1, I1, q1⟩
  | false => exact hb wh pins s1 σ H1 Q ht1 I1 q1
theorem pst_ifT {c : Expr} {a b : List Stmt} {tc : TT} {t u : TS} {pos : Pos} (hc : PTT X c tc) (ha : PSs X a t) (hb : PSs X b u) : PST X (.If c a b pos) (tIfS tc t u) := by
  intro pins s σ H D ht I h
  refine wpAny_If (thn (hc pins s σ H _ ht I h) fun d s1 ⟨H1, I1, q1⟩ => ?_)
  cases d with
  | true => exact ha.run pins s1 σ H1 D I1 q1
  | false => exact hb.run pins s1 σ H1 D I1 q1
theorem psst_s {st : Stmt} {rest : List Stmt} {t u : TS} (h1 : PS X st t) (h2 : PSsT X rest u) : PSsT X (st :: rest) (tSeq t u) := psst_cons (PST.of h1) h2
def noSt : Stmt := .Pass ⟨0, 0, 0, 0⟩
theorem drop_at : ∀ (l : List Stmt) (i : Nat), i < l.length → l.drop i = l.getD i noSt :: l.drop (i + 1)
  | [], i, h => absurd h (Nat.not_lt_zero _)
  | a :: l, 0, _ => rfl
  | a :: l, i + 1, h => drop_at l i (Nat.lt_of_succ_lt_succ h)
/-- PSsT behind a structure: a def that unfolds to a ∀ is walked by the elaborator after every application -/
structure PZ (X : Cx) (l : List Stmt) (t : TS) : Prop where
  run : PSsT X l t
structure PZ1 (X : Cx) (st : Stmt) (t : TS) : Prop where
  run : PST X st t
theorem PZ.of {l : List Stmt} {t : TS} (h : PSs X l t) : PZ X l t := ⟨PSsT.of h⟩
theorem pz_at1 {l : List Stmt} {i : Nat} {t u : TS} (h : i < l.length) (h1 : PZ1 X (l.getD i noSt) t) (h2 : PZ X (l.drop (i + 1)) u) : PZ X (l.drop i) (tSeq t u) := by
  refine ⟨?_⟩
  rw [drop_at l i h]
  exact psst_cons h1.run h2.run
theorem pz_at {l : List Stmt} {i : Nat} {t u : TS} (h : i < l.length) (h1 : PS X (l.getD i noSt) t) (h2 : PZ X (l.drop (i + 1)) u) : PZ X (l.drop i) (tSeq t u) := pz_at1 h ⟨PST.of h1⟩ h2
theorem pz_at0 {l : List Stmt} {t : TS} (h : PZ X (l.drop 0) t) : PZ X l t := h
theorem pz_ifT {c : Expr} {a b : List Stmt} {tc : TT} {t u : TS} {pos : Pos} (hc : PTT X c tc) (ha : PSs X a t) (hb : PSs X b u) : PZ1 X (.If c a b pos) (tIfS tc t u) := ⟨pst_ifT hc ha hb⟩
theorem pss_at {l : List Stmt} {i : Nat} {t u : TS} (h : i < l.length) (h1 : PS X (l.getD i noSt) t) (h2 : PSs X (l.drop (i + 1)) u) : PSs X (l.drop i) (tSeq t u) := by
  rw [drop_at l i h]
  exact pss_cons h1 h2
theorem pss_at0 {l : List Stmt} {t : TS} (h : PSs X (l.drop 0) t) : PSs X l t := h
theorem pet_slice {e : Expr} {te : TE} {lo hi : Option Expr} {tl th : TO} {p2 pos : Pos} {r : V → Option Int → Option Int → Hp → VK → Prop} (hr : SlR X r) (he : PET X e te) (hl : PO X lo tl) (hu : PO X hi th) : PET X (.Subscript e (.Slice lo hi none p2) pos) (tSl r te tl th) := by
  intro pins s σ H Q ht I h
  refine Subscript_ (thn (he pins s σ H _ ht I h) fun v s1 ⟨x, H1, I1, r1, q1⟩ => ?_)
  refine wpAny_Slice (thn (hl.run pins s1 σ H1 _ I1 q1) fun vl s2 ⟨l, H2, I2, pl, q2⟩ => thn (hu.run pins s2 σ H2 _ I2 q2) fun vu s3 ⟨u, H3, I3, pu, q3⟩ => ?_)
  rw [evalPart_none]
  refine wpAny_pure ?_
  have I4 : Inv X pins σ H3 { s3 with heap := s3.heap.push { cls := .type "slice", data := .fields #[vl, vu, .none] } } := I3.kept (t' := s3.toks) fun b ob q => Heap.get?_push_of_some _ q
  obtain ⟨T, id, hT, ht, hg⟩ := hr pins { s3 with heap := s3.heap.push { cls := .type "slice", data := .fields #[vl, vu, .none] } } σ H3 x v vl vu l u s3.heap.objs.size Q I4 r1 (Heap.IsSliceOf.new ..) pl pu q3
  show wpAny (model X.prog X.w) X.A (subscriptTail e (.Slice lo hi none p2) v (.ref s3.heap.objs.size)) (EP X pins σ Q) X.xe { s3 with heap := s3.heap.push { cls := .type "slice", data := .fields #[vl, vu, .none] } }
  exact tail_any (ops := [.ref s3.heap.objs.size, v]) ht hT hg (by with_unfolding_all rfl)
theorem pet_cal {x : Str} {ps : List Str} {sp : Sp} {k : Nat} {CX : CXT} {E : XK} {e : Expr} {es : List Expr} {t : TA} {p pos : Pos} (C : Cal X.prog X.w X.K X.mg X.base CX k x ps sp) (hr : Room k X.A) (hx : Passes CX X E) (ha : PAT X (e :: es) t) (hg : Gl X x := by rfl) (hdb : (x == ("__debug__" : Str)) = false := by decide)
    (hs : (e :: es).all nostar = true := by rfl) : PET X (.Call (.Name x p) (e :: es) [] pos) (tCall sp [] E t) := by
  obtain ⟨f, fd, g, kp, b, F⟩ := C.ex
  simp only [List.all_cons, Bool.and_eq_true] at hs
  intro pins s σ H Q ht I h
  refine wpAny_Call_Name_kw (ld_glob I hg g ?_ hdb)
  refine PySem.W.callWith_K (h₀ := X.base) I.ok.mod.kin kp (thn (ha pos pins s σ H _ ht I h) fun us s1 ⟨vs, H1, I1, r, q⟩ => ⟨I1.kIn, ?_⟩) (star_ok hs.1) (back_ok hs.2)
  exact run_fn F hr b .nil hx I1 r q
end
section
variable {P : Program} {w : World} {K : PySem.W.Frag} {mg : Str → Option Value} {base : Heap} {x x0 : Str} {st : Stmt} {N ps : List Str} {k : Nat} {sp : Sp}
theorem Src.calT (S : Src K mg x st) (sc : FnScope N (x0 :: ps) (defScope st)) (bn : BindP x st (x0 :: ps)) (h0 : (defScope st).names.lookup x0 = some .local) (len : ∀ vs H Q E, sp vs H Q E → vs.length = (x0 :: ps).length)
    (hbody : ∀ (f : Addr) (cdv : Value) (A : Around) (outer : List Env) (s : Shared) (H : Hp) (vs : List V) (Q : VK) (E : XK), Room k (A.deeper (envOfC x (defScope st) s.heap.objs.size f cdv)) → sp vs H Q E →
      ∃ t, PZ (cxOf CX0 P w K mg base N x (defScope st) f cdv A outer s H E) (defBody st) t ∧ t { nx := fun _ H' => Q .non H', rt := Q } (L2.start N vs) H) : Cal P w K mg base CX0 (k + 1) x (x0 :: ps) sp := by
  obtain ⟨f, fd, g, F⟩ := S
  refine ⟨f, fd, g, F.kp, F.bindsN bn, ?_⟩
  obtain ⟨oc, od, dV, kV, doc, pm, an, cdv, ct, osl, rfl, lk, hcd, _, _⟩ := F.ex
  exact fn_ofTC lk hcd sc h0 len fun A outer s H vs Q E hr hsp => by
    obtain ⟨t, h1, h2⟩ := hbody f cdv A outer s H vs Q E hr hsp
    exact ⟨t, h1.run, h2⟩
end
/-! ### the law's own def -/
section
variable {P : Program} {w : World} {K : PySem.W.Frag} {mg : Str → Option Value} {base : Heap} {x x0 : Str} {st : Stmt} {N ps : List Str} {k : Nat} {sp : Sp} {f : Addr} {fd : FuncData}
theorem lawT (F : FunD K x x (defArgs st) (defBody st) (defScope st) [] [] f fd) (sc : FnScope N (x0 :: ps) (defScope st)) (h0 : (defScope st).names.lookup x0 = some .local) (len : ∀ vs H Q E, sp vs H Q E → vs.length = (x0 :: ps).length)
    (hbody : ∀ (f : Addr) (cdv : Value) (A : Around) (outer : List Env) (s : Shared) (H : Hp) (vs : List V) (Q : VK) (E : XK), Room k (A.deeper (envOfC x (defScope st) s.heap.objs.size f cdv)) → sp vs H Q E →
      ∃ t, PZ (cxOf CX0 P w K mg base N x (defScope st) f cdv A outer s H E) (defBody st) t ∧ t { nx := fun _ H' => Q .non H', rt := Q } (L2.start N vs) H) : FnOk P w K mg base CX0 (k + 1) f fd (x0 :: ps) sp := by
  obtain ⟨oc, od, dV, kV, doc, pm, an, cdv, ct, osl, rfl, lk, hcd, _, _⟩ := F.ex
  exact fn_ofTC lk hcd sc h0 len fun A outer s H vs Q E hr hsp => by
    obtain ⟨t, h1, h2⟩ := hbody f cdv A outer s H vs Q E hr hsp
    exact ⟨t, h1.run, h2⟩
theorem law0 (F : FunD K x x (defArgs st) (defBody st) (defScope st) [] [] f fd) (sc : FnScope N ps (defScope st)) (len : ∀ vs H Q E, sp vs H Q E → vs.length = ps.length)
    (hbody : ∀ (f : Addr) (cdv : Value) (A : Around) (outer : List Env) (s : Shared) (H : Hp) (vs : List V) (Q : VK) (E : XK), Room k (A.deeper (envOfC x (defScope st) s.heap.objs.size f cdv)) → sp vs H Q E →
      ∃ t, PSs (cxOf CX0 P w K mg base N x (defScope st) f cdv A outer s H E).nox (defBody st) t ∧ t { nx := fun _ H' => Q .non H', rt := Q } (L2.start N vs) H) : FnOk P w K mg base CX0 (k + 1) f fd ps sp := by
  refine F.ok sc len fun cdv A outer s H vs Q E hr hsp => ?_
  obtain ⟨t, h, q⟩ := hbody f cdv A outer s H vs Q E hr hsp
  exact ⟨t, h.nox, q⟩
theorem cst_int {i : Int} (h : ∃ t, mg x = some (.int i t)) : Cst mg x (.int i) := by
  obtain ⟨t, h⟩ := h
  exact ⟨_, h, ⟨t, rfl⟩⟩
theorem cst_ref {a : Addr} (h : mg x = some (.ref a)) : Cst mg x (.ref a) := ⟨_, h, rfl⟩
theorem cst_str {z : Str} (h : ∃ t, mg x = some (.str z t)) : Cst mg x (.str z) := by
  obtain ⟨t, h⟩ := h
  exact ⟨_, h, ⟨t, rfl⟩⟩
end
end Fx
/-! for i, x in enumerate(t), t a tuple; a list or a tuple -/
namespace Fx
open PySem PySem.Spec PyProof.Rows L2
open AutoSeq1 (wpAny_loadPart')
theorem enum_newT (l : Addr) (items : Array Value) (n : Nat) (dct : Option Addr) (sl : Array (Option Value)) :
    Meets (Builtin.«enumerate.__new__» ⟨[.type "enumerate", .ref l], []⟩) (fun _ R s => s.heap.get? l = some { cls := .type "tuple", dict := dct, data := .seq items n, slots := sl } ∧
      R (.ok (.ret (.ref (s.heap.push { cls := .type "tuple_iterator", data := .fields #[.ref l, .int 0 0] }).objs.size)))
        { s with heap := (s.heap.push { cls := .type "tuple_iterator", data := .fields #[.ref l, .int 0 0] }).push { cls := .type "enumerate", data := .fields #[.none, .bool false, .ref s.heap.objs.size, rawInt 0, .none, .none] } }) :=
  .of_wp fun prog w A R s h => by
    obtain ⟨hp, g, d, tk, os⟩ := s
    obtain ⟨hl, h⟩ := h
    have hsub := sub_enumerate
    have hL : Heap.IsTuple (Shared.heap ⟨hp, g, d, tk, os⟩) l items := ⟨_, hl, rfl, n, rfl⟩
    wp_walk using wpAny_loadPart' hl
    refine wpAny_stack_any fun st => wpAny_pure ?_
    split
    · rename_i c _ _ _ _ _
      cases (c == Value.type "enumerate")
      · wp_walk using wpAny_loadPart' hl, wpAny_pyIter_tuple hL
        exact ⟨_, rfl, h⟩
      · wp_walk using wpAny_loadPart' hl, wpAny_pyIter_tuple hL
        exact ⟨_, rfl, h⟩
    · wp_walk using wpAny_loadPart' hl, wpAny_pyIter_tuple hL
      exact ⟨_, rfl, h⟩
theorem call_enumT {prog : Program} {w : World} {A : Around} {E : Value → Shared → Prop} {s : Shared} {l : Addr} {items : Array Value} {Q : Value → Shared → Prop} (hL : s.heap.IsTuple l items)
    (h : ∀ h', IsEnum h' (s.heap.objs.size + 1) s.heap.objs.size 0 .none → h'.IsTupleIter s.heap.objs.size l 0 → h'.objs.size = s.heap.objs.size + 2 →
      (∀ b o, s.heap.get? b = some o → h'.get? b = some o) → Q (.ref (s.heap.objs.size + 1)) { s with heap := h' }) :
    wpAny (model prog w) A (call (.type "enumerate") [.ref l]) Q E s := by
  obtain ⟨⟨c, dct, dt, sl⟩, hl, hc, n, hd⟩ := hL
  replace hc : c = .type "tuple" := hc
  replace hd : dt = .seq items n := hd
  subst hc hd
  refine callType_new F.called_enumerate (by decide) (F.typeCall_enumerate_1 _) (F.newCall_enumerate_1 _) (fun obj => F.args_object_init_2 obj _) F.entry_enumerate_new
    (enum_newT l items n dct sl) ⟨hl, ?_⟩
  have hz : (s.heap.push { cls := .type "tuple_iterator", data := .fields #[.ref l, .int 0 0] }).objs.size = s.heap.objs.size + 1 := Heap.size_push ..
  show _ ∧ _
  rw [hz]
  have he : IsEnum ((s.heap.push { cls := .type "tuple_iterator", data := .fields #[.ref l, .int 0 0] }).push
      { cls := .type "enumerate", data := .fields #[.none, .bool false, .ref s.heap.objs.size, rawInt 0, .none, .none] }) (s.heap.objs.size + 1) s.heap.objs.size 0 .none := by
    have := Heap.get?_push_size (s.heap.push { cls := .type "tuple_iterator", data := .fields #[.ref l, .int 0 0] })
      (o := { cls := .type "enumerate", data := .fields #[.none, .bool false, .ref s.heap.objs.size, rawInt 0, .none, .none] }) rfl
    rw [hz] at this
    exact this
  exact ⟨⟨_, he, rfl⟩, h _ he ⟨_, Heap.get?_push_of_some _ (Heap.get?_push_size _ rfl), rfl, rfl⟩ (by rw [Heap.size_push, hz]) fun b o x => Heap.get?_push_of_some _ (Heap.get?_push_of_some _ x)⟩
def IteT (K : PySem.W.Frag) (a : Addr) : It :=
  ⟨fun i H => ∃ (xs : List V) (x : V), SqT K H a xs ∧ xs[i]? = some x, fun i H v H' => ∃ T x, v = .ref T ∧ H T = none ∧ H' = upd H T (.tup [.int (i : Nat), x]) ∧ ∀ xs, SqT K H a xs → xs[i]? = some x, fun i H => ∃ xs : List V, SqT K H a xs ∧ xs.length = i⟩
theorem turn_enumT {P : Program} {w : World} {K : PySem.W.Frag} {elts : List Expr} {kk : Nat} {tpos : Pos} (a e it : Addr) :
    Turn P w K (.Tuple elts kk tpos) (IteT K a) [e, it] e (fun i h => (∃ old, IsEnum h e it ((i : Nat) : Int) old) ∧ h.IsTupleIter it a i ∧ e ≠ it ∧ a ≠ e ∧ a ≠ it) where
  mem := by simp
  obj := fun i h st b hb => by
    obtain ⟨⟨old, he⟩, ⟨o, ho, hc, hd⟩, _⟩ := st
    have e' : b = e ∨ b = it := by simpa using hb
    rcases e' with z | z
    · rw [z]
      exact ⟨_, he, fun v q => nomatch q⟩
    · rw [z]
      exact ⟨o, ho, fun v q => by rw [hd] at q; cases q⟩
  keep := fun i h h' st k => let ⟨⟨old, he⟩, ⟨o, ho, hr⟩, hne⟩ := st; ⟨⟨old, k e (by simp) _ he⟩, ⟨o, k it (by simp) o ho, hr⟩, hne⟩
  item := by
    intro X hP hw hK hc i pins s σ H E I hf st hg
    subst hP hw hK
    obtain ⟨⟨old, he⟩, hit, hne, hae, hai⟩ := st
    obtain ⟨xs, x, hq, hx⟩ := hg
    obtain ⟨its, rv, p, hz⟩ := I.tuple hq
    obtain ⟨u0, hu0, ru⟩ := rv.get hx
    have hel : e < s.heap.objs.size := Heap.lt_size he
    have hil : it < s.heap.objs.size := by obtain ⟨_, q, _⟩ := hit; exact Heap.lt_size q
    have D := Draws.tuple (prog := X.prog) (w := X.w) (A := X.A.in1) (show X.A.in1.handled = none from I.ok.hd hc) it a hai its.toArray
    have hin : i < its.toArray.size := by
      have := (List.getElem?_eq_some_iff.mp hu0).1
      simpa using this
    refine wpAny_pyNext_enum_itemD D he ⟨hit, p⟩ hin hne (by simp [hne, Ne.symm hae]) fun u h' tk hu ho hit' hT hsz hk => ?_
    have eu : u = u0 := by
      have h1 : its[i]? = some u := by simpa using hu
      rw [hu0] at h1
      exact (Option.some.inj h1).symm
    subst eu
    refine ⟨_, rfl, wpAny_letOwnedTupleGo_enum (s := { s with heap := h', toks := tk + 1 }) ho fun h'' he' sb => ?_⟩
    have hT2 : h''.get? s.heap.objs.size = some { cls := .type "tuple", data := .seq #[.int i tk, u] } := (sb.2 _ (Nat.ne_of_gt hel)).trans hT
    have new : ObjOk X.prog X.w (upd H s.heap.objs.size (.tup [.int (i : Nat), x])) h'' s.heap.objs.size (.tup [.int (i : Nat), x]) :=
      ⟨by show 2 ≤ sizeLine; decide, [.int i tk, u], .cons ⟨_, rfl⟩ (.cons ru .nil), ⟨_, hT2, rfl, _, rfl⟩⟩
    have I1 : Inv X pins σ (upd H s.heap.objs.size (.tup [.int (i : Nat), x])) { s with heap := h'', toks := tk + 1 } :=
      I.turnedNew (ch := [e, it]) (fun b ob hb q => (sb.2 b (fun z => hb (by simp [z]))).trans (hk b ob (fun z => hb (by simp [z])) (fun z => hb (by simp [z])) q)) hf (Nat.le_refl _) new
    refine ⟨.ref s.heap.objs.size, _, I1, rfl, ⟨_, x, rfl, I.hok.fresh (Nat.le_refl _), rfl, fun ys hy => by rw [I.tuple_inj hy hq]; exact hx⟩, ⟨⟨u, ?_⟩, ?_, hne, hae, hai⟩, fun b hb => ?_⟩
    · have e1 : ((i + 1 : Nat) : Int) = (i : Int) + 1 := by omega
      rw [e1]
      exact he'
    · obtain ⟨⟨o, ho2, hr⟩, _⟩ := hit'
      exact ⟨o, (sb.2 it (Ne.symm hne)).trans ho2, hr⟩
    · have hb' : b < s.heap.objs.size := by
        have e' : b = e ∨ b = it := by simpa using hb
        rcases e' with z | z
        · rw [z]; exact hel
        · rw [z]; exact hil
      rw [upd_ne (Nat.ne_of_lt hb')]
      exact (hf b hb).1
  done := by
    intro X hP hw hK hc i pins s σ H E I hf st hg
    subst hP hw hK
    obtain ⟨⟨old, he⟩, hit, hne, hae, hai⟩ := st
    obtain ⟨xs, hq, hx⟩ := hg
    obtain ⟨its, rv, p, hz⟩ := I.tuple hq
    obtain ⟨f0, f1, f2, f3, f4, f5⟩ := hf it (by simp)
    have hl := rv.length
    have D := Draws.tuple (prog := X.prog) (w := X.w) (A := X.A.in1) (show X.A.in1.handled = none from I.ok.hd hc) it a hai its.toArray
    have hi : i = its.toArray.size := by
      rw [List.size_toArray]
      omega
    subst hi
    exact wpAny_pyNext_enum_endD D he ⟨hit, p⟩ fun h' eb => ⟨rfl, I.turned (t' := s.toks) (fun b o hb q => eb b o hb q) f0 f1 f3 f4 f5⟩
  self := fun A i s Q E st h => let ⟨⟨_, he⟩, _⟩ := st; wpAny_pyIter_enum he h
def iEnumT (K : PySem.W.Frag) (ta : TA) : TI := fun σ H R => ta σ H fun vs H1 => ∃ a xs, vs = [.ref a] ∧ SqT K H1 a xs ∧ R (IteT K a) H1
section
variable {X : Cx} {e : Expr} {ta : TA} {p pos tpos : Pos} {elts : List Expr} {kk : Nat}
theorem pi_enumT (hg : Gl X "enumerate") (hm : X.mg "enumerate" = none) (ha : PA X [e] ta) (hs : starEach [e] X.env = [(false, eval e X.env)] := by rfl) :
    PI X (.Tuple elts kk tpos) (.Call (.Name "enumerate" p) [e] [] pos) (iEnumT X.K ta) := by
  refine ⟨fun pins s σ H R I h => ?_⟩
  refine Call_ (ld_blt I hg hm boot_enumerate (PyProof.Rows.callWith_type1 (thn (ha.run pos pins s σ H _ I h) fun us s1 ⟨vs, H1, I1, r1, q1⟩ => ?_) hs rfl))
  obtain ⟨a, xs, ex, hq, q⟩ := q1
  subst ex
  cases r1 with
  | cons r rr =>
    cases rr
    cases r
    obtain ⟨its, rv, p', hz⟩ := I1.tuple hq
    have hla : a < s1.heap.objs.size := by
      obtain ⟨o, ho, _⟩ := p'
      exact Heap.lt_size ho
    refine call_enumT p' fun h' he hit hsz hk => wpAny_pyIter_enum he ?_
    have I2 : Inv X pins σ H1 { s1 with heap := h' } := I1.kept (t' := s1.toks) hk
    refine ⟨s1.heap.objs.size + 1, [s1.heap.objs.size + 1, s1.heap.objs.size], _, _, H1, rfl, I2, turn_enumT a (s1.heap.objs.size + 1) s1.heap.objs.size, ⟨⟨.none, he⟩, hit, Nat.succ_ne_self _, Nat.ne_of_lt (Nat.lt_succ_of_lt hla), Nat.ne_of_lt hla⟩, fun b hb => ?_, q⟩
    have e' : b = s1.heap.objs.size + 1 ∨ b = s1.heap.objs.size := by simpa using hb
    have hle : s1.heap.objs.size ≤ b := by
      rcases e' with z | z
      · rw [z]; exact Nat.le_add_right _ _
      · rw [z]; exact Nat.le_refl _
    exact I1.fpOk hle (I1.hok.fresh hle)
/-- a list or a tuple -/
def iEnumQ (K : PySem.W.Frag) (ta : TA) : TI := fun σ H R => iEnum K ta σ H R ∨ iEnumT K ta σ H R
theorem pi_enumQ (hg : Gl X "enumerate") (hm : X.mg "enumerate" = none) (ha : PA X [e] ta) (hs : starEach [e] X.env = [(false, eval e X.env)] := by rfl) :
    PI X (.Tuple elts kk tpos) (.Call (.Name "enumerate" p) [e] [] pos) (iEnumQ X.K ta) := by
  refine ⟨fun pins s σ H R I h => ?_⟩
  rcases h with h | h
  · exact (pi_enum hg hm ha hs).run pins s σ H R I h
  · exact (pi_enumT hg hm ha hs).run pins s σ H R I h
def iQ (K : PySem.W.Frag) (tl : TE) : TI := fun σ H R => iList K tl σ H R ∨ iTup K tl σ H R
theorem pi_Q {tg l : Expr} {tl : TE} (hl : PE X l tl) : PI X tg l (iQ X.K tl) := by
  refine ⟨fun pins s σ H R I h => ?_⟩
  rcases h with h | h
  · exact (pi_list hl).run pins s σ H R I h
  · exact (pi_tup hl).run pins s σ H R I h
end
/-- a list or a tuple that stands in the tracked heap -/
def Sq (H : Hp) (p : Addr) (xs : List V) : Prop := H p = some (.lst xs) ∨ H p = some (.tup xs)
theorem Sq.same {H H' : Hp} {p : Addr} {xs : List V} (h : Sq H p xs) (s : Same H H') : Sq H' p xs := by
  rcases h with h | h
  · exact .inl (s _ _ h)
  · exact .inr (s _ _ h)
section
variable {X : Cx}
def rIxQ : R2 := fun x y H Q => ∃ p i xs, x = .ref p ∧ y = .int i ∧ Sq H p xs ∧ ∃ v, atI xs i = some v ∧ Q v H
theorem ix_Q : IxR X rIxQ := by
  have h1 : IxR X rIxLt := ix_L
  have h2 : IxR X rIxTt := ix_T
  intro ve se pins s σ H x y v u Q I rx ry h hs
  obtain ⟨p, i, xs, e1, e2, hq, w, hw, q⟩ := h
  rcases hq with hq | hq
  · exact h1 ve se pins s σ H x y v u Q I rx ry ⟨p, i, xs, e1, e2, hq, w, hw, q⟩ hs
  · exact h2 ve se pins s σ H x y v u Q I rx ry ⟨p, i, xs, e1, e2, hq, w, hw, q⟩ hs
def rLenQ : List V → Hp → VK → Prop := fun vs H Q => ∃ p xs, vs = [.ref p] ∧ Sq H p xs ∧ Q (.int (xs.length : Nat)) H
theorem len_Q : CallR X (.builtin "len") rLenQ := CallR.imp call_len_seq fun vs H Q ⟨p, ys, e, h, q⟩ => ⟨p, ys, e, h.elim (fun h => .inl (.inl (.inl h))) (fun h => .inr (.inl (.inl h))), q⟩
def rTupQ : List V → Hp → VK → Prop := fun vs H Q => ∃ p xs, vs = [.ref p] ∧ Sq H p xs ∧ ∀ l H', Same H H' → H' l = some (.tup xs) → Q (.ref l) H'
theorem tup_Q : CallR X (.type "tuple") rTupQ := CallR.imp call_tuple_of fun vs H Q ⟨p, ys, e, h, q⟩ => ⟨p, ys, e, h.elim (fun h => .inl ⟨.inl (.inl h), fun l nl => q l _ (same_new nl) upd_same⟩) (fun h => .inr ⟨.inl (.inl h), q p H (Same.refl H) h⟩)⟩
def rTupL : List V → Hp → VK → Prop := fun vs H Q => ∃ p xs, vs = [.ref p] ∧ H p = some (.lst xs) ∧ ∀ l, H l = none → Q (.ref l) (upd H l (.tup xs))
theorem tup_L : CallR X (.type "tuple") rTupL := CallR.imp call_tuple_of fun vs H Q ⟨p, ys, e, h, q⟩ => ⟨p, ys, e, .inl ⟨.inl (.inl h), q⟩⟩
end
/-- the loop over enumerate(a list or a tuple) -/
theorem for_enumQ {K : PySem.W.Frag} {ta : TA} {a : Addr} {xs : List V} {g : TG} {tb : TS} {D : Ends} {σ : L2.St} {H : Hp} (hta : ∀ Q : List V → Hp → Prop, Q [.ref a] H → ta σ H Q) (hq : Sq H a xs) (Pv : Nat → L2.St → Hp → Prop) (h0 : Pv 0 σ H)
    (hl : ∀ i σ H', Pv i σ H' → ∀ o, H a = some o → H' a = some o)
    (hs : ∀ i x T σ H, xs[i]? = some x → Pv i σ H → H T = none → g (.ref T) σ (upd H T (.tup [.int (i : Nat), x])) fun σ' H' => tb { D with nx := Pv (i + 1), ct := Pv (i + 1), bk := D.nx } σ' H')
    (hd : ∀ σ H, Pv xs.length σ H → D.nx σ H) : tFor (iEnumQ K ta) g tb D σ H := by
  rcases hq with hq | hq
  · refine .inl (hta _ ⟨a, xs, rfl, .inl (.inl hq), ?_⟩)
    refine ⟨fun i m σ H' => m = xs.length - i ∧ i ≤ xs.length ∧ Pv i σ H', ⟨_, rfl, Nat.zero_le _, h0⟩, ?_⟩
    rintro i m σ H' ⟨rfl, hi, p⟩
    have hk : SqL K H' a xs := .inl (.inl (hl i σ H' p _ hq))
    by_cases hlt : i < xs.length
    · refine .inr ⟨⟨xs, xs[i], hk, by simp [hlt]⟩, fun σ' H' => Pv (i + 1) σ' H', fun σ' H' q => ⟨xs.length - (i + 1), by omega, rfl, hlt, q⟩, fun x H2 hy => ?_⟩
      obtain ⟨T, c, rfl, nT, rfl, hc⟩ := hy
      exact hs i c T σ H' (hc xs hk) p nT
    · have ei : i = xs.length := by omega
      subst ei
      exact .inl ⟨⟨xs, hk, Nat.le_refl _⟩, hd σ H' p⟩
  · refine .inr (hta _ ⟨a, xs, rfl, .inl (.inl hq), ?_⟩)
    refine ⟨fun i m σ H' => m = xs.length - i ∧ i ≤ xs.length ∧ Pv i σ H', ⟨_, rfl, Nat.zero_le _, h0⟩, ?_⟩
    rintro i m σ H' ⟨rfl, hi, p⟩
    have hk : SqT K H' a xs := .inl (.inl (hl i σ H' p _ hq))
    by_cases hlt : i < xs.length
    · refine .inr ⟨⟨xs, xs[i], hk, by simp [hlt]⟩, fun σ' H' => Pv (i + 1) σ' H', fun σ' H' q => ⟨xs.length - (i + 1), by omega, rfl, hlt, q⟩, fun x H2 hy => ?_⟩
      obtain ⟨T, c, rfl, nT, rfl, hc⟩ := hy
      exact hs i c T σ H' (hc xs hk) p nT
    · have ei : i = xs.length := by omega
      subst ei
      exact .inl ⟨⟨xs, hk, rfl⟩, hd σ H' p⟩
section
variable {X : Cx}
theorem shaped_flatT {xs : List V} (hx : xs.all isF = true) : SeqAt.shaped (.tuple (xs.map datV)) = true := by
  obtain ⟨h1, h2⟩ := lay_flat hx
  simp [SeqAt.shaped, PyData.canLay0, PyData.depth, h1, h2]
def rNeL : R2 := fun x y H Q => ∃ p q xs ys, x = .ref p ∧ y = .ref q ∧ H p = some (.lst xs) ∧ H q = some (.lst ys) ∧ xs.all isF = true ∧ ys.all isF = true ∧ Q (.bl (!decide (xs = ys))) H
def rNeT : R2 := fun x y H Q => ∃ p q xs ys, x = .ref p ∧ y = .ref q ∧ H p = some (.tup xs) ∧ H q = some (.tup ys) ∧ xs.all isF = true ∧ ys.all isF = true ∧ Q (.bl (!decide (xs = ys))) H
def rEqT : R2 := fun x y H Q => ∃ p q xs ys, x = .ref p ∧ y = .ref q ∧ H p = some (.tup xs) ∧ H q = some (.tup ys) ∧ xs.all isF = true ∧ ys.all isF = true ∧ Q (.bl (decide (xs = ys))) H
theorem ne_LL (hu : X.A.units + 64 < cLine) : OpR X (compareOp .NotEq) rNeL := by
  intro pins s σ H x y v u Q I rx ry h
  obtain ⟨p, q, xs, ys, rfl, rfl, hp, hq, fx, fy, k⟩ := h
  refine op_neD hu pins s σ H _ _ v u Q I rx ry ⟨.list (xs.map datV), .list (ys.map datV), .lst (.inl (.inl hp)) (dpAll_dat fx), .lst (.inl (.inl hq)) (dpAll_dat fy), shaped_flat fx, shaped_flat fy, ?_⟩
  rw [PyData.eqv, eqvAll_dat fx fy]
  exact k
theorem ne_TT (hu : X.A.units + 64 < cLine) : OpR X (compareOp .NotEq) rNeT := by
  intro pins s σ H x y v u Q I rx ry h
  obtain ⟨p, q, xs, ys, rfl, rfl, hp, hq, fx, fy, k⟩ := h
  refine op_neD hu pins s σ H _ _ v u Q I rx ry ⟨.tuple (xs.map datV), .tuple (ys.map datV), .tup (.inl (.inl hp)) (dpAll_dat fx), .tup (.inl (.inl hq)) (dpAll_dat fy), shaped_flatT fx, shaped_flatT fy, ?_⟩
  rw [PyData.eqv, eqvAll_dat fx fy]
  exact k
theorem eq_TT (hu : X.A.units + 64 < cLine) : OpR X (compareOp .Eq) rEqT := by
  intro pins s σ H x y v u Q I rx ry h
  obtain ⟨p, q, xs, ys, rfl, rfl, hp, hq, fx, fy, k⟩ := h
  refine op_eqD hu pins s σ H _ _ v u Q I rx ry ⟨.tuple (xs.map datV), .tuple (ys.map datV), .tup (.inl (.inl hp)) (dpAll_dat fx), .tup (.inl (.inl hq)) (dpAll_dat fy), shaped_flatT fx, shaped_flatT fy, ?_⟩
  rw [PyData.eqv, eqvAll_dat fx fy]
  exact k
theorem all_int (ns : List Int) : (ns.map V.int).all isF = true := by simp [isF]
theorem map_int_inj {a b : List Int} : a.map V.int = b.map V.int ↔ a = b := by
  constructor
  · intro h
    induction a generalizing b with
    | nil => cases b with
      | nil => rfl
      | cons y b => cases h
    | cons x a ih => cases b with
      | nil => cases h
      | cons y b =>
        simp only [List.map_cons, List.cons.injEq, V.int.injEq] at h
        rw [h.1, ih h.2]
  · intro h
    rw [h]
/-- len of a list or a tuple -/
def rMin2 : List V → Hp → VK → Prop := fun xs H Q => ∃ i j, xs = [.int i, .int j] ∧ Q (.int (if j < i then j else i)) H
theorem min_2 (hc : X.calm = true) : CallR X (.builtin "min") rMin2 := call_min2 hc
def rAnd255 : R2 := fun x y H Q => ∃ i : Int, x = .int i ∧ y = .int 255 ∧ Q (.int (i % 256)) H
theorem and_255 {X : Cx} : OpR X (binaryOp .BitAnd) rAnd255 := by
  intro pins s σ H x y v u Q I rx ry h
  obtain ⟨i, rfl, rfl, q⟩ := h
  exact op_andM pins s σ H _ _ v u Q I rx ry ⟨i, 8, rfl, rfl, q⟩
def rNonIs : R2 := fun x y H Q => y = .non ∧ Q (.bl (decide (x = .non))) H
theorem op_isNon : OpR X (compareOp .Is) rNonIs := op_isN
def rNonNot : R2 := fun x y H Q => y = .non ∧ Q (.bl (!decide (x = .non))) H
theorem op_notNon : OpR X (compareOp .IsNot) rNonNot := op_notN
def rIns : V → List V → Hp → VK → Prop := fun x vs H Q => ∃ (l : Addr) (xs : List V) (i : Int) (y : V), x = .ref l ∧ vs = [.int i, y] ∧ H l = some (.lst xs) ∧ xs.length < sizeLine ∧ 0 ≤ i ∧ i < 2 ^ 63 ∧ Q .non (upd H l (.lst (xs.take i.toNat ++ [y] ++ xs.drop i.toNat)))
theorem mt_ins : MtR X "list.insert" rIns := mt_insert
open AutoSeq1 in
theorem extend_tuple (l : Addr) (items : Array Value) (n : Nat) (b : Addr) (items2 : Array Value) (n2 : Nat) (dct : Option Addr) (sl : Array (Option Value)) (hs0 : ¬(!items.isEmpty && Builtin.List.listTooLong (items.size + items2.size)) = true) (hs1 : items.size ≤ sizeLine) (hs2 : items.size + items2.size ≤ sizeLine + 1) :
    Meets (Builtin.«list.extend» ⟨[.ref l, .ref b], []⟩) (fun _ R s => s.heap.get? l = some { cls := .type "list", dict := none, data := .seq items n, slots := #[] } ∧ s.heap.get? b = some { cls := .type "tuple", dict := dct, data := .seq items2 n2, slots := sl } ∧ R (.ok (.ret Value.none)) { s with heap := s.heap.update l (Obj.mapSeq fun x => x ++ items2), toks := s.toks }) :=
  .of_wp fun prog w A R s h => by
    obtain ⟨hp, g, d, tk, os⟩ := s
    obtain ⟨hl, hb, h⟩ := h
    have f1 := idx_int
    have f2 := AutoSeq1.sub_tuple_tuple
    have f3 := AutoSeq1.sub_list_list
    have f4 := AutoSeq1.sub_tuple_list
    have f5 := AutoSeq1.sub_list_tuple
    have hz' : (items ++ items2).size ≤ sizeLine + 1 := by rw [Array.size_append]; exact hs2
    wp_walk using (wpAny_updateSeq hl rfl (hz := hs1) (_hz' := hz')), wpAny_loadPart' hl, wpAny_loadPart' hb
    exact ⟨_, rfl, h⟩
def rExtQ : V → List V → Hp → VK → Prop := fun x vs H Q => ∃ l b xs zs, x = .ref l ∧ vs = [.ref b] ∧ H l = some (.lst xs) ∧ Sq H b zs ∧ xs.length + zs.length ≤ sizeLine ∧ Q .non (upd H l (.lst (xs ++ zs)))
theorem mt_extQ : MtM X "list.extend" rExtQ := by
  intro pins s σ H x vs v us Q I rx rv h
  obtain ⟨l, b, xs, zs, rfl, rfl, hH, hB, hz, q⟩ := h
  rcases hB with hB | hB
  · exact mt_extend pins s σ H _ _ v us Q I rx rv ⟨l, b, xs, zs, rfl, rfl, hH, hB, hz, q⟩
  cases rx
  obtain ⟨u, rfl, ru⟩ := rv.one
  cases ru
  obtain ⟨z, its, n, r, hl, e⟩ := I.lstM hH
  obtain ⟨its2, r2, ⟨⟨c2, d2, dt2, sl2⟩, e2, hc2, n2, hd2⟩, hz2⟩ := I.tuple (.inl (.inl hB))
  have hl2 := r2.length
  replace hc2 : c2 = .type "tuple" := hc2
  replace hd2 : dt2 = .seq its2.toArray n2 := hd2
  subst hc2 hd2
  have hsz : its.toArray.size + its2.toArray.size ≤ sizeLine := by rw [List.size_toArray, List.size_toArray]; omega
  have hlong : ¬ (!its.toArray.isEmpty && Builtin.List.listTooLong (its.toArray.size + its2.toArray.size)) = true := by
    rw [notLongL hsz, Bool.and_false]
    exact Bool.false_ne_true
  refine call_meets F.slot_list_extend ⟨_, e, rfl⟩ F.entry_list_extend (F.args_list_extend_2 _ _)
    (extend_tuple l its.toArray n b its2.toArray n2 d2 sl2 hlong (by rw [List.size_toArray]; omega) (by omega)) ⟨e, e2, ?_⟩
  refine ⟨.non, _, I.lset (its' := its ++ its2) hH e (by simp) (r.append r2) ?_, rfl, q⟩
  rw [List.length_append]
  omega
def rSlQ : V → Option Int → Option Int → Hp → VK → Prop := fun x lo hi H Q => ∃ a xs, x = .ref a ∧ Sq H a xs ∧ ∀ p H', Same H H' → Sq H' p (cutV xs lo hi) → Q (.ref p) H'
theorem sl_Q : SlR X rSlQ := by
  intro pins s σ H x v vl vu lo hi sl Q I rx hs pl pu h
  obtain ⟨a, xs, rfl, hx, q⟩ := h
  rcases hx with hx | hx
  · exact sl_L pins s σ H _ v vl vu lo hi sl Q I rx hs pl pu ⟨a, xs, rfl, hx, fun p np => q p _ (same_new np) (.inl upd_same)⟩
  · refine sl_tupA pins s σ H _ v vl vu lo hi sl Q I rx hs pl pu ⟨a, xs, rfl, .inl (.inl hx), fun hw => ?_, fun _ p np => q p _ (same_new np) (.inr upd_same)⟩
    have e : cutV xs lo hi = xs := by
      unfold cutV
      rw [hw.1, hw.2]
      simp
    exact q a H (Same.refl H) (by rw [e]; exact .inr hx)
end
end Fx
/-! Own classes: attribute targets, methods by promise; defs that know that no repr is under way (FnG) -/
namespace Fx
open PySem PySem.Spec PyProof.Rows L2
section
variable {X : Cx} {o : Expr} {to : TE} {f : Str} {pos : Pos}
/-- .. , o.f, .. = value -/
def gFld (K : PySem.W.Frag) (to : TE) (f : Str) : TG := fun v σ H Q => to σ H fun x H1 => ∃ a C dx fs, x = .ref a ∧ H1 a = some (.ins C dx fs) ∧ Cls K C ∧ NoAttr K C f ∧ fs.length < 1000 ∧ Q σ (upd H1 a (.ins C dx (putF f v fs)))
theorem pg_fld (ho : PE X o to) : PG X (.Attribute o f pos) (gFld X.K to f) := by
  refine ⟨fun pins s σ H v u Q I r h => ?_⟩
  rw [assign_Attribute]
  refine wpAny_bind (wpAny_holding (thn (ho.run pins s σ H _ I h) fun ov s1 ⟨x, H1, I1, r1, a, C, dx, fs, ex, ea, c, n, l, q⟩ => ?_))
  subst ex
  obtain rfl : ov = Value.ref a := r1
  refine wpAny_bind (wpAny_standAt (wpAny_bind (wpAny_holding (setattr_ok I1 ea c n l r fun s3 I3 => ?_))))
  exact wpAny_release ⟨σ, _, I3, q⟩
end
/-! ### methods, makers -/
structure CalM (P : Program) (w : World) (K : PySem.W.Frag) (mg : Str → Option Value) (base : Heap) (CX : CXT) (k : Nat) (C : Addr) (m : Str) (ps : List Str) (sp : Sp) : Prop where
  ex : ∃ f fd, Meth K C m f ∧ Binds K fd ps [] ∧ FnOk P w K mg base CX k f fd ps sp
structure CalI (P : Program) (w : World) (K : PySem.W.Frag) (mg : Str → Option Value) (base : Heap) (CX : CXT) (k : Nat) (C : Addr) (ps : List Str) (sp : Sp) : Prop where
  ex : ∃ f fd, Mk K C f ∧ Binds K fd ps [] ∧ FnOk P w K mg base CX k f fd ps sp
section
variable {X : Cx} {x : Str} {C : Addr} {ps : List Str} {sp : Sp} {k : Nat} {CX : CXT} {E : XK} {e : Expr} {es : List Expr} {t : TA} {p pos : Pos}
/-- C(e, ..) -/
theorem pe_mk (M : CalI X.prog X.w X.K X.mg X.base CX k C ps sp) (hr : Room (k + 1) X.A) (hm : X.mg x = some (.ref C)) (hx : Passes CX X E) (ha : PA X (e :: es) t) (hg : Gl X x := by rfl) (hdb : (x == ("__debug__" : Str)) = false := by decide)
    (hs : (e :: es).all nostar = true := by rfl) : PE X (.Call (.Name x p) (e :: es) [] pos) (tMake C sp [] E t) := by
  obtain ⟨f, fd, m, b, F⟩ := M.ex
  simp only [List.all_cons, Bool.and_eq_true] at hs
  exact pe_make m F hr hg hm b .nil hx ha hdb (star_ok hs.1) (back_ok hs.2)
end
/-! ### a method's body -/
abbrev BindQ (x q : Str) (st : Stmt) (ps : List Str) : Prop := ∀ (kV doc pm : Value) (an : Option Addr) (cdv ct : Value) (us : List Value), us.length = ps.length → bindArgs (PySem.W.fnOf x q (defArgs st) (defBody st) (defScope st) .none kV doc pm an cdv ct) ⟨us, []⟩ = pure (ps.zip us)
section
variable {P : Program} {w : World} {K : PySem.W.Frag} {mg : Str → Option Value} {base : Heap} {x qual : Str} {st : Stmt} {N ps : List Str} {k : Nat} {sp : Sp} {f : Addr} {fd : FuncData}
theorem ok0 (F : FunD K x qual (defArgs st) (defBody st) (defScope st) [] [] f fd) (sc : FnScope N ps (defScope st)) (len : ∀ vs H Q E, sp vs H Q E → vs.length = ps.length)
    (hbody : ∀ (f : Addr) (cdv : Value) (A : Around) (outer : List Env) (s : Shared) (H : Hp) (vs : List V) (Q : VK) (E : XK), Room k (A.deeper (envOfC qual (defScope st) s.heap.objs.size f cdv)) → sp vs H Q E →
      ∃ t, PSs (cxOf CX0 P w K mg base N qual (defScope st) f cdv A outer s H E).nox (defBody st) t ∧ t { nx := fun _ H' => Q .non H', rt := Q } (L2.start N vs) H) : FnOk P w K mg base CX0 (k + 1) f fd ps sp := by
  refine F.ok sc len fun cdv A outer s H vs Q E hr hsp => ?_
  obtain ⟨t, h, q⟩ := hbody f cdv A outer s H vs Q E hr hsp
  exact ⟨t, h.nox, q⟩
theorem okX (F : FunD K x qual (defArgs st) (defBody st) (defScope st) [] [] f fd) (sc : FnScope N ps (defScope st)) (len : ∀ vs H Q E, sp vs H Q E → vs.length = ps.length)
    (hbody : ∀ (f : Addr) (cdv : Value) (A : Around) (outer : List Env) (s : Shared) (H : Hp) (vs : List V) (Q : VK) (E : XK), Room k (A.deeper (envOfC qual (defScope st) s.heap.objs.size f cdv)) → sp vs H Q E →
      ∃ t, PSs (cxOf (L2.CX P w) P w K mg base N qual (defScope st) f cdv A outer s H E) (defBody st) t ∧ t { nx := fun _ H' => Q .non H', rt := Q } (L2.start N vs) H) : FnOk P w K mg base (L2.CX P w) (k + 1) f fd ps sp :=
  F.ok sc len fun cdv A outer s H vs Q E hr hsp => hbody f cdv A outer s H vs Q E hr hsp
end
/-! ### no repr is under way: guards = some [] -/
structure FnG (P : Program) (w : World) (K : PySem.W.Frag) (mg : Str → Option Value) (base : Heap) (CX : CXT) (k : Nat) (f : Addr) (fd : FuncData) (ps : List Str) (sp : Sp) : Prop where
  len : ∀ vs H Q E, sp vs H Q E → vs.length = ps.length
  run : ∀ (A : Around) (outer : List Env) (s : Shared) (H : Hp) (args : Args) (us : List Value) (vs : List V) (Q : VK) (E : XK), A.guards = some [] → Room k A → Env0 P w K mg base A outer s H → BindsTo s fd args (ps.zip us) → Vals vs us → sp vs H Q E →
    codeAny (model P w) A (.call (.ref f) args) (CR CX outer P w H s Q E) s
section
variable {P : Program} {w : World} {K : PySem.W.Frag} {mg : Str → Option Value} {base : Heap} {CX : CXT} {k : Nat} {f : Addr} {fd : FuncData} {N ps : List Str} {sp : Sp}
theorem FnG.of (F : FnOk P w K mg base CX k f fd ps sp) : FnG P w K mg base CX k f fd ps sp := ⟨F.len, fun A outer s H args us vs Q E _ hr e0 hb hv hs => F.run A outer s H args us vs Q E hr e0 hb hv hs⟩
/-- a def whose body may use that no repr is under way -/
theorem fn_ofG {name qual : Str} {params : Arguments} {body : List Stmt} {scope : Scope} {dV kV doc pm cdv ct oc : Value} {an od : Option Addr} {osl : Array (Option Value)}
    (lk : K.lookup f = some ⟨oc, od, .func (PySem.W.fnOf name qual params body scope dV kV doc pm an cdv ct), osl⟩) (hcd : PySem.W.codeIn K cdv qual = true) (S : FnScope N ps scope) (len : ∀ vs H Q E, sp vs H Q E → vs.length = ps.length)
    (hbody : ∀ (A : Around) (outer : List Env) (s : Shared) (H : Hp) (vs : List V) (Q : VK) (E : XK), A.guards = some [] → Room k (A.deeper (envOfC qual scope s.heap.objs.size f cdv)) → sp vs H Q E →
      ∃ t, PSs (cxOf CX P w K mg base N qual scope f cdv A outer s H E) body t ∧ t { nx := fun _ H' => Q .non H', rt := Q } (L2.start N vs) H) :
    FnG P w K mg base CX (k + 1) f (PySem.W.fnOf name qual params body scope dV kV doc pm an cdv ct) ps sp := by
  constructor
  · exact len
  intro A outer s H args us vs Q E hG hr e0 hb r hsp
  have hl := len _ _ _ _ hsp
  have kin : K.In s.heap := e0.mod.kin.keeps fun b o e => (e0.bs b o e).1
  have nol : s.heap.NoLimit := e0.mod.nolimit.keeps fun b o e => (e0.bs b o e).1
  have kinds : ∀ y ∈ ps.zip us, scope.names.lookup y.1 = some .local ∨ (scope.names.lookup y.1 = some .cell ∧ ((cellsFrom (s.heap.objs.size + 1) scope.names []).lookup y.1).isSome = true) := by
    rintro ⟨n, v⟩ hy
    rcases S.par n (List.of_mem_zip hy).1 with q | q
    · left; exact q
    · right; exact ⟨q, PySem.W.cellsFrom_some _ _ _ (.inl q)⟩
  refine codeAny_call_function hr.depth (kin _ _ lk) rfl S.co S.gen rfl (PySem.W.codeRec_of kin hcd) (hb _ _ _ _ (wpAny_newFunctionEnv_cells S.kind kinds fun env he s1 x => ?_))
  subst he
  refine ⟨nol.keeps x.toInCall.keep, codeAny_func ?_⟩
  obtain ⟨t, ht, hq⟩ := hbody A outer s H vs Q E hG (hr.deeper _) hsp
  refine wpAny_mono (ht.run [] s1 (L2.start N vs) H _ (inv_start S hr.hd e0 hl r x) hq) (fun fl s' hs => ?_) fun e s' hs => hs
  have done : ∀ {σ' : L2.St} {H' : Hp} {v : V} {u : Value}, Inv (cxOf CX P w K mg base N qual scope f cdv A outer s H E) [] σ' H' s' → RelV v u → Q v H' → CE outer P w H s Q u s' := by
    intro σ' H' v u J rv q
    exact ⟨v, H', J.os, J.bare, J.base, J.hok, rv, q⟩
  cases fl with
  | ret u => obtain ⟨v, σ', H', J, rv, q⟩ := hs; exact done J rv q
  | next => obtain ⟨σ', H', J, q⟩ := hs; exact done (v := V.non) (u := Value.none) J rfl q
  | brk => obtain ⟨_, _, _, q⟩ := hs; exact q.elim
  | cont => obtain ⟨_, _, _, q⟩ := hs; exact q.elim
end
structure CalG (P : Program) (w : World) (K : PySem.W.Frag) (mg : Str → Option Value) (base : Heap) (CX : CXT) (k : Nat) (x : Str) (ps : List Str) (sp : Sp) : Prop where
  ex : ∃ f fd, mg x = some (.ref f) ∧ PySem.W.keepIn K (.ref f) = true ∧ Binds K fd ps [] ∧ FnG P w K mg base CX k f fd ps sp
section
variable {P : Program} {w : World} {K : PySem.W.Frag} {mg : Str → Option Value} {base : Heap} {x : Str} {st : Stmt} {N ps : List Str} {k : Nat} {sp : Sp} {f : Addr} {fd : FuncData}
theorem lawG (F : FunD K x x (defArgs st) (defBody st) (defScope st) [] [] f fd) (sc : FnScope N ps (defScope st)) (len : ∀ vs H Q E, sp vs H Q E → vs.length = ps.length)
    (hbody : ∀ (f : Addr) (cdv : Value) (A : Around) (outer : List Env) (s : Shared) (H : Hp) (vs : List V) (Q : VK) (E : XK), A.guards = some [] → Room k (A.deeper (envOfC x (defScope st) s.heap.objs.size f cdv)) → sp vs H Q E →
      ∃ t, PSs (cxOf CX0 P w K mg base N x (defScope st) f cdv A outer s H E).nox (defBody st) t ∧ t { nx := fun _ H' => Q .non H', rt := Q } (L2.start N vs) H) : FnG P w K mg base CX0 (k + 1) f fd ps sp := by
  obtain ⟨oc, od, dV, kV, doc, pm, an, cdv, ct, osl, rfl, lk, hcd, _, _⟩ := F.ex
  refine fn_ofG lk hcd sc len fun A outer s H vs Q E hG hr hsp => ?_
  obtain ⟨t, h, q⟩ := hbody f cdv A outer s H vs Q E hG hr hsp
  exact ⟨t, h.nox, q⟩
theorem Src.calG (S : Src K mg x st) (sc : FnScope N ps (defScope st)) (bn : BindP x st ps) (len : ∀ vs H Q E, sp vs H Q E → vs.length = ps.length)
    (hbody : ∀ (f : Addr) (cdv : Value) (A : Around) (outer : List Env) (s : Shared) (H : Hp) (vs : List V) (Q : VK) (E : XK), A.guards = some [] → Room k (A.deeper (envOfC x (defScope st) s.heap.objs.size f cdv)) → sp vs H Q E →
      ∃ t, PSs (cxOf CX0 P w K mg base N x (defScope st) f cdv A outer s H E).nox (defBody st) t ∧ t { nx := fun _ H' => Q .non H', rt := Q } (L2.start N vs) H) : CalG P w K mg base CX0 (k + 1) x ps sp := by
  obtain ⟨f, fd, g, F⟩ := S
  exact ⟨f, fd, g, F.kp, F.bindsN bn, lawG F sc len hbody⟩
end
section
variable {X : Cx} {x : Str} {ps : List Str} {sp : Sp} {k : Nat} {CX : CXT} {E : XK} {e : Expr} {es : List Expr} {t : TA} {p pos : Pos}
/-- f(e, ..) where no repr is under way -/
theorem pe_calG (C : CalG X.prog X.w X.K X.mg X.base CX k x ps sp) (hG : X.A.guards = some []) (hr : Room k X.A) (hx : Passes CX X E) (ha : PA X (e :: es) t) (hg : Gl X x := by rfl) (hdb : (x == ("__debug__" : Str)) = false := by decide)
    (hs : (e :: es).all nostar = true := by rfl) : PE X (.Call (.Name x p) (e :: es) [] pos) (tCall sp [] E t) := by
  obtain ⟨f, fd, g, kp, b, F⟩ := C.ex
  simp only [List.all_cons, Bool.and_eq_true] at hs
  refine ⟨fun pins s σ H Q I h => wpAny_Call_Name_kw (ld_glob I hg g ?_ hdb)⟩
  refine PySem.W.callWith_K (h₀ := X.base) I.ok.mod.kin kp (thn (ha.run pos pins s σ H _ I h) fun us s1 ⟨vs, H1, I1, r, q⟩ => ⟨I1.kIn, ?_⟩) (star_ok hs.1) (back_ok hs.2)
  have q2 : sp vs H1 Q E := by
    have q' : sp (vs ++ []) H1 Q E := q
    rw [List.append_nil] at q'
    exact q'
  have hl : us.length = ps.length := by rw [← r.length]; exact F.len _ _ _ _ q2
  have hb : BindsTo s1 fd ⟨us, []⟩ (ps.zip us) := by
    have := b s1 us I1.kIn (by rw [List.append_nil]; exact hl)
    rw [List.append_nil] at this
    exact this
  refine wpAny_call (codeAny_mono (F.run X.A X.stack s1 H1 ⟨us, []⟩ us vs Q E hG hr I1.env0 hb r q2) fun r s' hq => ?_)
  cases r with
  | error e => exact hx pins σ H1 s1 e s' I1 hq
  | ok fl => cases fl with
    | ret u => exact I1.after hq
    | next => exact hq.elim
    | brk => exact hq.elim
    | cont => exact hq.elim
end
/-! ### repr of data -/
def rRepr (K : PySem.W.Frag) : List V → Hp → VK → Prop := fun xs H Q => ∃ (x : V) (d : PyData), xs = [x] ∧ Dp K H x d ∧ d.showable = true ∧ d.hasDict = false ∧ d.depth ≤ 50 ∧ d.shown.length ≤ sizeLine ∧ Q (.str d.shown) H
theorem call_reprD {X : Cx} (hG : X.A.guards = some []) (hu : X.A.units + 64 < cLine) : CallR X (.builtin "repr") (rRepr X.K) := by
  intro pins s σ H xs us Q I rx h
  obtain ⟨x, d, rfl, hd, sh, nd, dp, hz, q⟩ := h
  obtain ⟨u, rfl, ru⟩ := rx.one
  obtain ⟨as, rd⟩ := Dp.reads I d x u hd ru
  have fin : ∀ h' tk0 tk, (∀ b o, s.heap.get? b = some o → h'.get? b = some o) → EP X pins σ Q (.str d.shown tk0) { s with heap := h', toks := tk } := fun h' tk0 tk hk => ⟨.str d.shown, H, I.kept hk, ⟨_, rfl⟩, q⟩
  have tok : ∀ tk0 tk, EP X pins σ Q (.str d.shown tk0) { s with toks := tk } := fun tk0 tk => ⟨.str d.shown, H, I.tok _, ⟨_, rfl⟩, q⟩
  cases hd with
  | non => cases ru; exact P.repr_of_none (tok _ _)
  | bl b => cases ru; exact P.repr_of_bool (by cases b <;> exact tok _ _)
  | int i =>
    obtain ⟨t, rfl⟩ := ru
    exact P.repr_of_int (by simpa [PyData.showable] using sh) (tok _ _)
  | str z =>
    obtain ⟨t, rfl⟩ := ru
    exact P.repr_of_str (tok _ _) hz
  | lst h1 h2 =>
    cases ru
    exact repr_of_reads' rd sh (fun z => by rw [nd] at z; cases z) hG (by omega) (fun b o e => e) (fun h' u tk hk => fin h' u tk hk) hz
  | tup h1 h2 =>
    cases ru
    exact repr_of_reads' rd sh (fun z => by rw [nd] at z; cases z) hG (by omega) (fun b o e => e) (fun h' u tk hk => fin h' u tk hk) hz
theorem call_reprK {X : Cx} {K : PySem.W.Frag} (hK : X.K = K) (hG : X.A.guards = some []) (hu : X.A.units + 64 < cLine) : CallR X (.builtin "repr") (rRepr K) := by
  subst hK
  exact call_reprD hG hu
end Fx
/-! A law's end where the law's def knows that no repr is under way -/
namespace Fx
open PySem PySem.Spec PyProof.Rows L2
section
variable {P : Program} {w : World} {K : PySem.W.Frag} {mg mb : Str → Option Value} {CX : CXT} {k : Nat} {fa a : Addr} {fd : FuncData} {x : Str} {sp : Sp} {z : Shared} {vs : List Value} {ns : List Int}
/-- the law's call from a heap that tracks the script at most -/
theorem endG_from {H : Hp} (KX : K.In z.heap) (hns : z.heap.Ns mainGlobals mg) (hb : z.heap.Ns builtinsNs mb) (hbb : ∀ x : Str, x ≠ "__name__" → mb x = bootBuiltins x) (hlim : z.heap.NoLimit) (hg : z.gens = #[])
    (ha : z.heap.get? a = some { cls := .type "list", data := .seq vs.toArray }) (hr : Room k callerA) (F : ∀ base : Heap, K.In base → base.Ns mainGlobals mg → FnG P w K mg base CX k fa fd [x] sp)
    (hbind : ∀ (s : Shared) (u : Value), BindsTo s fd ⟨[u], []⟩ [(x, u)]) (hCX : ∀ H e s', CX [] H z (fun _ _ _ => False) e s' → False) (hO : Only H) (hp : sp [.ref a] H (fun v _ => v = .bl true) fun _ _ _ => False)
    (hok : HOk P w H z.heap) (only : ∀ b, H b ≠ none → b = a) (hK : H a ≠ none → K.lookup a = none) :
    codeAny (model P w) callerA (.call (.ref fa) ⟨[.ref a], []⟩) (fun r s' => r = .ok (.ret (.bool true)) ∧ OldK z.heap s'.heap ∧ s'.os = z.os ∧ AllBare s'.gens) z := by
  -- what is not the script is not tracked
  have free : ∀ {b : Addr}, b ≠ a → H b = none := by
    intro b hn
    cases q : H b with
    | none => rfl
    | some u => exact absurd (only b (by rw [q]; intro y; cases y)) hn
  have keepNs : ∀ {b : Addr} {m : Str → Option Value}, z.heap.Ns b m → (hidT z.heap H).Ns b m := by
    rintro b m ⟨o, es, ep, e, d, r⟩
    refine ⟨o, es, ep, hidT_get e (free ?_), d, r⟩
    intro q
    rw [q, ha] at e
    cases e
    cases (show Data.seq vs.toArray _ = Data.dict es ep from d)
  have keepK : K.In (hidT z.heap H) := by
    intro b o e
    refine hidT_get (KX b o e) ?_
    cases q : H b with
    | none => rfl
    | some u =>
      have eb := only b (by rw [q]; intro y; cases y)
      rw [eb] at e q
      rw [hK (by rw [q]; intro y; cases y)] at e
      cases e
  obtain ⟨mc, l1, l2⟩ := hlim
  have hM : Mod K mg (hidT z.heap H) := ⟨keepK, keepNs hns, ⟨mb, keepNs hb, hbb⟩, ⟨mc, keepNs l1, l2⟩⟩
  have none_ : ∀ b : Addr, b ∉ ([] : List Addr) := fun b h => by cases h
  have e0 : Env0 P w K mg (hidT z.heap H) callerA [] z H := ⟨rfl, hM, fun b o e => of_hidT e, Nat.le_of_eq (hidT_size _ _), trivial, fun b q => absurd (show b ∈ ([] : List Addr) from q) (none_ b), hok, .of_eq hg⟩
  have run := (F _ keepK (keepNs hns)).run callerA [] z H ⟨[.ref a], []⟩ [.ref a] [.ref a] _ _ rfl hr e0 (hbind z (.ref a)) (.cons rfl .nil) hp
  refine codeAny_mono run fun r s' h => ?_
  match r, h with
  | .error e, h => exact (hCX H e s' h).elim
  | .ok .next, h => exact h.elim
  | .ok .brk, h => exact h.elim
  | .ok .cont, h => exact h.elim
  | .ok (.ret u), h =>
    obtain ⟨v, H', os, bare, un, hok', ru, qv⟩ := h
    have ev : v = .bl true := qv
    rw [ev] at ru
    obtain rfl : u = Value.bool true := ru
    refine ⟨rfl, OldK.of_keep fun b o e => ?_, os, bare⟩
    rcases hO b with f | ⟨ob, xs, f⟩
    · exact un.keep b o e f (by intro y; exact absurd (show b ∈ ([] : List Addr) from y) (none_ b)) (by simp)
    · have e1 := (hok b _ f).1
      have e2 := (hok' b _ (un.frzs b ob _ f)).1
      rw [e] at e1
      cases e1
      exact e2
end
theorem walk_ofG {l : PySem.W.OpenLaw} {n k : Nat} {q : Program} {loose : List Str} {XP : (Str → Option Value) → Heap → Prop} {YP : World → Heap → Prop} {d : DefRec} {x : Str}
    (hn : l.most = some n) (hn2 : n ≤ sizeLine) (hdf : d.params.defaults = []) (hr : Room k callerA)
    (F : ∀ (w : World) (mg : Str → Option Value) (fa : Addr) (h : Heap), YP w h → h.Ns mainGlobals mg → mg d.name = some (.ref fa) →
      ∃ (K : PySem.W.Frag) (fd : FuncData) (sp : Sp), K.In h ∧ (∀ (s : Shared) (u : Value), BindsTo s fd ⟨[u], []⟩ [(x, u)]) ∧
        (∀ (H : Hp) (a : Addr) (ns : List Int), ns.length ≤ n → SqL K H a (ns.map V.int) → sp [.ref a] H (fun v _ => v = .bl true) fun _ _ _ => False) ∧
        ∀ base : Heap, K.In base → base.Ns mainGlobals mg → FnG l.prog w K mg base CX0 k fa fd [x] sp) :
    PySem.W.WalkO q loose XP YP l.row.toRowW d [] (fun f vs => PySem.call f vs) := by
  refine Att.attach_call hn hdf fun w s₀ z mg mb fa o pm cd doc a vs ns G Y ho hd hcd hmg hobj hints hlen hg => ?_
  obtain ⟨K, fd, sp, KX, hb, hsp, hF⟩ := F w mg fa _ Y G.T.g hmg
  have rv := vals_ints hints
  have lv := hints.length
  have hl : ns.length ≤ sizeLine := Nat.le_trans hlen hn2
  have go : ∀ H : Hp, Only H → SqL K H a (ns.map V.int) → HOk l.prog w H z.heap → (∀ b, H b ≠ none → b = a) → (H a ≠ none → K.lookup a = none) → _ := fun H hO hS hok only hK =>
    endG_from KX G.T.g G.T.b G.T.builtins G.T.nolimit hg hobj hr hF hb (fun _ _ _ y => y) hO (hsp H a ns hlen hS) hok only hK
  cases hk : K.lookup a with
  | some o =>
    have e := KX a o hk
    rw [hobj] at e
    cases e
    have hS : SqL K (fun _ => none) a (ns.map V.int) := .inr ⟨_, vs.toArray, _, hk, rfl, rfl, rfl, (by rw [List.size_toArray, lv]; exact hl), by simpa using rv⟩
    exact go (fun _ => none) (fun _ => .inl rfl) hS (fun b u y => by cases (show (none : Option HO) = some u from y)) (fun b y => absurd rfl y) (fun y => absurd rfl y)
  | none =>
    let o0 : Obj := { cls := .type "list", data := .seq vs.toArray }
    let H0 : Hp := fun b => if b = a then some (.frz o0 (.lst (ns.map V.int))) else none
    have at_ : H0 a = some (.frz o0 (.lst (ns.map V.int))) := if_pos rfl
    have off : ∀ {b : Addr}, b ≠ a → H0 b = none := fun h => if_neg h
    refine go H0 (fun b => ?_) (.inl (.inr ⟨o0, at_⟩)) (fun b u y => ?_) (fun b y => ?_) fun _ => hk
    · by_cases e : b = a
      · rw [e]
        exact .inr ⟨_, _, at_⟩
      · exact .inl (off e)
    · by_cases e : b = a
      · rw [e, at_] at y
        cases y
        rw [e]
        exact ⟨hobj, by rw [List.length_map]; exact hl, vs, _, rv, hobj⟩
      · rw [off e] at y
        cases y
    · by_cases e : b = a
      · exact e
      · exact absurd (off e) y
end Fx
/-! text.ljust(n, sign), sign.join(a tracked list), is True, a module's tuple of tuples -/
namespace Fx
open PySem PySem.Spec PyProof.Rows L2
section
variable {X : Cx}
def rLj : V → List V → Hp → VK → Prop := fun x xs H Q => ∃ (a f : Str) (i : Int), x = .str a ∧ xs = [.int i, .str f] ∧ PadOk i = true ∧ f.length = 1 ∧ Q (.str (Txt.ljustF a i (f.cps.getD 0 0))) H
theorem mt_lj : MtR X "str.ljust" rLj := by
  intro pins s σ H x xs v us Q I rx rs h
  obtain ⟨a, f, i, rfl, rfl, hp, hf, q⟩ := h
  obtain ⟨t, rfl⟩ := rx
  obtain ⟨u1, u2, rfl, r1, r2⟩ := rs.two
  obtain ⟨t1, rfl⟩ := r1
  obtain ⟨t2, rfl⟩ := r2
  exact ljust_fill hp hf fun t' k => ⟨.str _, H, I.tok _, ⟨_, rfl⟩, q⟩
def rJn : V → List V → Hp → VK → Prop := fun x xs H Q => ∃ (a : Str) (p : Addr) (ys : List Str), x = .str a ∧ xs = [.ref p] ∧ H p = some (.lst (ys.map V.str)) ∧ (ys.map (·.length)).sum + ys.length * a.length ≤ 16777216 ∧ Q (.str (Txt.join a ys)) H
theorem mt_jn : MtR X "str.join" rJn := by
  intro pins s σ H x xs v us Q I rx rs h
  obtain ⟨a, p, ys, e1, e2, hp, hz, q⟩ := h
  exact mt_join pins s σ H x xs v us Q I rx rs ⟨a, p, ys, e1, e2, .inl (.inl (.inl hp)), hz, q⟩
def rIsBl : R2 := fun x y H Q => ∃ a b, x = .bl a ∧ y = .bl b ∧ Q (.bl (decide (a = b))) H
theorem op_isBo : OpR X (compareOp .Is) rIsBl := op_is_bl
def rNoBl : R2 := fun x y H Q => ∃ a b, x = .bl a ∧ y = .bl b ∧ Q (.bl (!decide (a = b))) H
theorem op_noBo : OpR X (compareOp .IsNot) rNoBl := op_isnot_bl
end
/-! ### a module's tuple of tuples of numbers -/
def tupI (K : PySem.W.Frag) (v : Value) (r : List Int) : Bool := match v with
  | .ref a => (match K.lookup a with
    | some ⟨.type c, _, .seq its _, _⟩ => decide (c = "tuple") && (decide (its.size ≤ sizeLine) && He.relAll (r.map V.int) its.toList)
    | _ => false)
  | _ => false
def tupIs (K : PySem.W.Frag) : List Value → List (List Int) → Bool
  | [], [] => true
  | v :: vs, r :: rs => tupI K v r && tupIs K vs rs
  | _, _ => false
def tupsB (K : PySem.W.Frag) (x : Str) (rows : List (List Int)) : Bool := match K.lookup (He.ga K x) with
  | some ⟨.type c, _, .seq its _, _⟩ => decide (c = "tuple") && (decide (its.size ≤ sizeLine) && tupIs K its.toList rows)
  | _ => false
theorem tupI_ok {K : PySem.W.Frag} {v : Value} {r : List Int} (h : tupI K v r = true) : ∃ a, v = .ref a ∧ ∀ H, SqT K H a (r.map V.int) := by
  cases v with
  | ref a =>
    refine ⟨a, rfl, fun H => ?_⟩
    unfold tupI at h
    dsimp only at h
    cases q : K.lookup a with
    | none => rw [q] at h; cases h
    | some o =>
      obtain ⟨oc, od, dt, osl⟩ := o
      rw [q] at h
      cases oc with
      | type c =>
        cases dt with
        | seq its n =>
          obtain ⟨h1, h2⟩ := He.ba (show (decide (c = "tuple") && (decide (its.size ≤ sizeLine) && He.relAll (r.map V.int) its.toList)) = true from h)
          obtain ⟨h3, h4⟩ := He.ba h2
          exact .inr ⟨_, its, n, q, congrArg Value.type (of_decide_eq_true h1), rfl, of_decide_eq_true h3, He.relAll_ok h4⟩
        | _ => cases h
      | _ => cases dt <;> cases h
  | _ => cases h
theorem tupIs_ok {K : PySem.W.Frag} : ∀ {vs : List Value} {rs : List (List Int)}, tupIs K vs rs = true → ∃ as : List Addr, Vals (as.map V.ref) vs ∧ ∀ (i : Nat) (r : List Int), rs[i]? = some r → ∃ a, as[i]? = some a ∧ ∀ H, SqT K H a (r.map V.int)
  | [], [], _ => ⟨[], .nil, fun i r h => by simp at h⟩
  | v :: vs, r :: rs, h => by
    obtain ⟨h1, h2⟩ := He.ba (show (tupI K v r && tupIs K vs rs) = true from h)
    obtain ⟨a, rfl, ha⟩ := tupI_ok h1
    obtain ⟨as, hv, hr⟩ := tupIs_ok h2
    refine ⟨a :: as, .cons rfl hv, fun i r' hi => ?_⟩
    cases i with
    | zero =>
      have e : r = r' := by simpa using hi
      exact ⟨a, rfl, e ▸ ha⟩
    | succ i =>
      obtain ⟨b, hb, hs⟩ := hr i r' (by simpa using hi)
      exact ⟨b, by simpa using hb, hs⟩
  | [], _ :: _, h => by cases h
  | _ :: _, [], h => by cases h
theorem tupsB_ok {K : PySem.W.Frag} {x : Str} {rows : List (List Int)} (h : tupsB K x rows = true) : ∃ as : List Addr, (∀ H, SqT K H (He.ga K x) (as.map V.ref)) ∧ ∀ (i : Nat) (r : List Int), rows[i]? = some r → ∃ a, as[i]? = some a ∧ ∀ H, SqT K H a (r.map V.int) := by
  unfold tupsB at h
  cases q : K.lookup (He.ga K x) with
  | none => rw [q] at h; cases h
  | some o =>
    obtain ⟨oc, od, dt, osl⟩ := o
    rw [q] at h
    cases oc with
    | type c =>
      cases dt with
      | seq its n =>
        obtain ⟨h1, h2⟩ := He.ba (show (decide (c = "tuple") && (decide (its.size ≤ sizeLine) && tupIs K its.toList rows)) = true from h)
        obtain ⟨h3, h4⟩ := He.ba h2
        obtain ⟨as, hv, hr⟩ := tupIs_ok h4
        exact ⟨as, fun H => .inr ⟨_, its, n, q, congrArg Value.type (of_decide_eq_true h1), rfl, of_decide_eq_true h3, hv⟩, hr⟩
      | _ => cases h
    | _ => cases dt <;> cases h
/-! ### loops over a text's signs -/
theorem for_S {z : Str} {g : TG} {tb : TS} {D : Ends} {σ : L2.St} {H : Hp} (Pv : Nat → L2.St → Hp → Prop) (h0 : Pv 0 σ H)
    (hs : ∀ i c σ H, z.cps.toList[i]? = some c → Pv i σ H → g (.str ⟨#[c]⟩) σ H fun σ2 H2 => tb { D with nx := Pv (i + 1), ct := Pv (i + 1), bk := D.nx } σ2 H2) (hd : ∀ σ H, Pv z.cps.toList.length σ H → D.nx σ H) :
    ∃ W : Nat → Nat → L2.St → Hp → Prop, (∃ m, W 0 m σ H) ∧ ∀ i m σ H, W i m σ H →
      ((Its z).stop i H ∧ D.nx σ H) ∨ ((Its z).go i H ∧ ∃ N : L2.St → Hp → Prop, (∀ σ' H', N σ' H' → ∃ m', m' < m ∧ W (i + 1) m' σ' H') ∧ ∀ x H', (Its z).yld i H x H' → g x σ H' fun σ2 H2 => tb { D with nx := N, ct := N, bk := D.nx } σ2 H2) := by
  refine ⟨fun i m σ H => m = z.cps.size - i ∧ i ≤ z.cps.size ∧ Pv i σ H, ⟨_, rfl, Nat.zero_le _, h0⟩, ?_⟩
  rintro i m σ H ⟨rfl, hi, p⟩
  by_cases hlt : i < z.cps.size
  · refine .inr ⟨hlt, fun σ' H' => Pv (i + 1) σ' H', fun σ' H' q => ⟨z.cps.size - (i + 1), by omega, rfl, hlt, q⟩, fun x H' hy => ?_⟩
    obtain ⟨rfl, c, hc, rfl⟩ := hy
    exact hs i c σ H' (by rw [Array.getElem?_toList]; exact hc) p
  · have ei : i = z.cps.size := by omega
    subst ei
    exact .inl ⟨Nat.le_refl _, hd σ H (by rw [Array.length_toList]; exact p)⟩
theorem lc_S {z : Str} {g : TG} {tt : TT} {te : TE} {vs : List Nat} {σ : L2.St} {H1 : Hp} {D : Addr} {Qd : Hp → Prop} (Pv : Nat → Hp → Prop) (h0 : Pv 0 (upd H1 D (.lst [])))
    (hs : ∀ i c H, z.cps.toList[i]? = some c → Pv i H → g (.str ⟨#[c]⟩) (wipe σ vs) H fun σ2 H2 => wipe σ2 vs = wipe σ vs ∧ tt σ2 H2 fun b H3 =>
      if b = true then te σ2 H3 fun y H4 => ∃ acc, H4 D = some (.lst acc) ∧ acc.length < sizeLine ∧ Pv (i + 1) (upd H4 D (.lst (acc ++ [y]))) else Pv (i + 1) H3) (hd : ∀ H, Pv z.cps.toList.length H → Qd H) :
    ∃ W : Nat → Nat → Hp → Prop, (∃ m, W 0 m (upd H1 D (.lst []))) ∧ ∀ i m H, W i m H →
      ((Its z).stop i H ∧ Qd H) ∨ ((Its z).go i H ∧ ∃ Nx : Hp → Prop, (∀ H', Nx H' → ∃ m', m' < m ∧ W (i + 1) m' H') ∧ ∀ x H', (Its z).yld i H x H' → g x (wipe σ vs) H' fun σ2 H2 => wipe σ2 vs = wipe σ vs ∧ tt σ2 H2 fun b H3 =>
        if b = true then te σ2 H3 fun y H4 => ∃ acc, H4 D = some (.lst acc) ∧ acc.length < sizeLine ∧ Nx (upd H4 D (.lst (acc ++ [y]))) else Nx H3) := by
  refine ⟨fun i m H => m = z.cps.size - i ∧ i ≤ z.cps.size ∧ Pv i H, ⟨_, rfl, Nat.zero_le _, h0⟩, ?_⟩
  rintro i m H ⟨rfl, hi, p⟩
  by_cases hlt : i < z.cps.size
  · refine .inr ⟨hlt, fun H' => Pv (i + 1) H', fun H' q => ⟨z.cps.size - (i + 1), by omega, rfl, hlt, q⟩, fun x H' hy => ?_⟩
    obtain ⟨rfl, c, hc, rfl⟩ := hy
    exact hs i c H' (by rw [Array.getElem?_toList]; exact hc) p
  · have ei : i = z.cps.size := by omega
    subst ei
    exact .inl ⟨Nat.le_refl _, hd H (by rw [Array.length_toList]; exact p)⟩
theorem mem_sign {c : Nat} {z : Str} {p : Prop} (h : (c ∈ z.cps.toList) = p) : (c ∈ z.cps.toList) = p := h
/-- ''.join -/
theorem join0_list : ∀ ys : List Str, (Txt.join "" ys).cps.toList = (ys.map fun y => y.cps.toList).flatten
  | [] => rfl
  | y :: ys => by
    have key : ∀ (l : List Str) (acc : Array Nat), (l.foldl (fun acc p => acc ++ (("" : Str)).cps ++ p.cps) acc).toList = acc.toList ++ (l.map fun y => y.cps.toList).flatten := by
      intro l
      induction l with
      | nil => intro acc; simp
      | cons a l ih =>
        intro acc
        rw [List.foldl_cons, ih]
        have e : (("" : Str)).cps = #[] := rfl
        rw [e]
        simp
    exact key ys y.cps
mutual
theorem dp_mono {K : PySem.W.Frag} {H H' : Hp} (hl : ∀ a xs, SqL K H a xs → SqL K H' a xs) (ht : ∀ a xs, SqT K H a xs → SqT K H' a xs) : ∀ (d : PyData) (v : V), Dp K H v d → Dp K H' v d
  | .none, _, h => by cases h; exact .non
  | .bool b, _, h => by cases h; exact .bl b
  | .int i, _, h => by cases h; exact .int i
  | .str x, _, h => by cases h; exact .str x
  | .list ds, _, h => by
    cases h with
    | lst hs ha => exact .lst (hl _ _ hs) (dp_monoAll hl ht ds _ ha)
  | .tuple ds, _, h => by
    cases h with
    | tup hs ha => exact .tup (ht _ _ hs) (dp_monoAll hl ht ds _ ha)
  | .dict _, _, h => by cases h
theorem dp_monoAll {K : PySem.W.Frag} {H H' : Hp} (hl : ∀ a xs, SqL K H a xs → SqL K H' a xs) (ht : ∀ a xs, SqT K H a xs → SqT K H' a xs) : ∀ (ds : List PyData) (vs : List V), DpAll K H vs ds → DpAll K H' vs ds
  | [], _, h => by cases h; exact .nil
  | d :: ds, _, h => by
    cases h with
    | cons h1 h2 => exact .cons (dp_mono hl ht d _ h1) (dp_monoAll hl ht ds _ h2)
end
theorem rd_keep {H H' : Hp} {b a : Addr} {o : HO} (hk : ∀ a o, a ≠ b → H a = some o → H' a = some o) (hb : ∃ kvs, H b = some (.dK kvs)) (no : ∀ kvs, o ≠ .dK kvs) (h : Rd H a o) : Rd H' a o := by
  obtain ⟨kvs, hb⟩ := hb
  rcases h with h | ⟨ob, h⟩
  · refine .inl (hk a o (fun e => ?_) h)
    rw [e, hb] at h
    exact no kvs (Option.some.inj h).symm
  · refine .inr ⟨ob, hk a _ (fun e => ?_) h⟩
    rw [e, hb] at h
    cases h
theorem dp_same {K : PySem.W.Frag} {H H' : Hp} {d : PyData} {v : V} (s : Same H H') (h : Dp K H v d) : Dp K H' v d := by
  refine dp_mono (fun _ _ q => s.seq q) (fun a xs q => ?_) d v h
  rcases q with (q | ⟨ob, q⟩) | q
  · exact .inl (.inl (s _ _ q))
  · exact .inl (.inr ⟨ob, s _ _ q⟩)
  · exact .inr q
theorem dp_kp {K : PySem.W.Frag} {b : Addr} {H H' : Hp} {d : PyData} {v : V} (B : Bag H b) (k : Kp b H H') (h : Dp K H v d) : Dp K H' v d := by
  refine dp_mono (fun a xs q => ?_) (fun a xs q => ?_) d v h
  · rcases q with q | q
    · exact .inl (rd_keep k.keep B.some (fun _ e => by cases e) q)
    · exact .inr q
  · rcases q with q | q
    · exact .inl (rd_keep k.keep B.some (fun _ e => by cases e) q)
    · exact .inr q
/-- data that repr shows -/
structure Shw (K : PySem.W.Frag) (H : Hp) (v : V) (d : PyData) : Prop where
  dp : Dp K H v d
  sh : d.showable = true
  nd : d.hasDict = false
  dep : d.depth ≤ 50
  len : d.shown.length ≤ sizeLine
  ok : isF (.str d.shown) = true
theorem Shw.same {K : PySem.W.Frag} {H H' : Hp} {d : PyData} {v : V} (s : Same H H') (h : Shw K H v d) : Shw K H' v d := ⟨dp_same s h.dp, h.sh, h.nd, h.dep, h.len, h.ok⟩
theorem Shw.kp {K : PySem.W.Frag} {b : Addr} {H H' : Hp} {d : PyData} {v : V} (B : Bag H b) (k : Kp b H H') (h : Shw K H v d) : Shw K H' v d := ⟨dp_kp B k h.dp, h.sh, h.nd, h.dep, h.len, h.ok⟩
end Fx
namespace K10
open PySem PySem.Spec PyProof.Rows L2 Fx
def sizes : List (List Int) := [[2, 1, 16, 1, 8, 32768], [3, 2, 24, 2, 12, 8388608], [4, 4, 32, 2, 16, 2147483648]]

def top (i : Nat) : Stmt := PySem.Challenge.pw_fablemill_k10_cut_forms.main.body.getD i (.Pass ⟨0, 0, 0, 0⟩)
abbrev s_Version_MU_initU : Stmt := inClass (top 15) 0
abbrev N_Version_MU_initU : List Str := ["self", "version"]
theorem sc_Version_MU_initU : FnScope N_Version_MU_initU ["self", "version"] (defScope s_Version_MU_initU) := ⟨rfl, rfl, rfl, by decide +kernel, rfl, by decide +kernel, by decide +kernel⟩
theorem bn_Version_MU_initU : BindQ "__init__" "Version.__init__" s_Version_MU_initU ["self", "version"] := fun _ _ _ _ _ _ us hl => match us, hl with | [_, _], _ => rfl
abbrev s__wall : Stmt := top 0
abbrev N__wall : List Str := ["k"]
theorem sc__wall : FnScope N__wall ["k"] (defScope s__wall) := ⟨rfl, rfl, rfl, by decide +kernel, rfl, by decide +kernel, by decide +kernel⟩
theorem bn__wall : BindP "_wall" s__wall ["k"] := fun _ _ _ _ _ _ us hl => match us, hl with | [_], _ => rfl
abbrev s_codes : Stmt := top 10
abbrev N_codes : List Str := ["sign", "place"]
theorem sc_codes : FnScope N_codes ["sign"] (defScope s_codes) := ⟨rfl, rfl, rfl, by decide +kernel, rfl, by decide +kernel, by decide +kernel⟩
theorem bn_codes : BindP "codes" s_codes ["sign"] := fun _ _ _ _ _ _ us hl => match us, hl with | [_], _ => rfl
abbrev s_plain_codes : Stmt := top 11
abbrev N_plain_codes : List Str := ["text", "row", "sign"]
theorem sc_plain_codes : FnScope N_plain_codes ["text"] (defScope s_plain_codes) := ⟨rfl, rfl, rfl, by decide +kernel, rfl, by decide +kernel, by decide +kernel⟩
theorem bn_plain_codes : BindP "plain_codes" s_plain_codes ["text"] := fun _ _ _ _ _ _ us hl => match us, hl with | [_], _ => rfl
abbrev s_is_integer : Stmt := top 14
abbrev N_is_integer : List Str := ["thing", "low", "high"]
theorem sc_is_integer : FnScope N_is_integer ["thing", "low", "high"] (defScope s_is_integer) := ⟨rfl, rfl, rfl, by decide +kernel, rfl, by decide +kernel, by decide +kernel⟩
theorem bn_is_integer : BindP "is_integer" s_is_integer ["thing", "low", "high"] := fun _ _ _ _ _ _ us hl => match us, hl with | [_, _, _], _ => rfl
abbrev s_is_word : Stmt := top 19
abbrev N_is_word : List Str := ["thing", "sign"]
theorem sc_is_word : FnScope N_is_word ["thing"] (defScope s_is_word) := ⟨rfl, rfl, rfl, by decide +kernel, rfl, by decide +kernel, by decide +kernel⟩
theorem bn_is_word : BindP "is_word" s_is_word ["thing"] := fun _ _ _ _ _ _ us hl => match us, hl with | [_], _ => rfl
abbrev s_cut_form : Stmt := top 20
abbrev N_cut_form : List Str := ["version", "word", "cut", "row", "code"]
theorem sc_cut_form : FnScope N_cut_form ["version", "word"] (defScope s_cut_form) := ⟨rfl, rfl, rfl, by decide +kernel, rfl, by decide +kernel, by decide +kernel⟩
theorem bn_cut_form : BindP "cut_form" s_cut_form ["version", "word"] := fun _ _ _ _ _ _ us hl => match us, hl with | [_, _], _ => rfl
abbrev s_alike : Stmt := top 21
abbrev N_alike : List Str := ["version", "first", "second"]
theorem sc_alike : FnScope N_alike ["version", "first", "second"] (defScope s_alike) := ⟨rfl, rfl, rfl, by decide +kernel, rfl, by decide +kernel, by decide +kernel⟩
theorem bn_alike : BindP "alike" s_alike ["version", "first", "second"] := fun _ _ _ _ _ _ us hl => match us, hl with | [_, _, _], _ => rfl
abbrev s__law_bag : Stmt := top 23
abbrev N__law_bag : List Str := ["_law_script", "_law_mixed", "_law_cell"]
theorem sc__law_bag : FnScope N__law_bag ["_law_script"] (defScope s__law_bag) := ⟨rfl, rfl, rfl, by decide +kernel, rfl, by decide +kernel, by decide +kernel⟩
theorem bn__law_bag : BindP "_law_bag" s__law_bag ["_law_script"] := fun _ _ _ _ _ _ us hl => match us, hl with | [_], _ => rfl
abbrev s__law_pick : Stmt := top 24
abbrev N__law_pick : List Str := ["_law_bag_here", "_law_many", "_law_number", "_law_cell"]
theorem sc__law_pick : FnScope N__law_pick ["_law_bag_here", "_law_many"] (defScope s__law_pick) := ⟨rfl, rfl, rfl, by decide +kernel, rfl, by decide +kernel, by decide +kernel⟩
theorem bn__law_pick : BindP "_law_pick" s__law_pick ["_law_bag_here", "_law_many"] := fun _ _ _ _ _ _ us hl => match us, hl with | [_, _], _ => rfl
abbrev s__law_codes : Stmt := top 25
abbrev N__law_codes : List Str := ["_law_sign", "_law_rows", "_law_k", "_law_place"]
theorem sc__law_codes : FnScope N__law_codes ["_law_sign"] (defScope s__law_codes) := ⟨rfl, rfl, rfl, by decide +kernel, rfl, by decide +kernel, by decide +kernel⟩
theorem bn__law_codes : BindP "_law_codes" s__law_codes ["_law_sign"] := fun _ _ _ _ _ _ us hl => match us, hl with | [_], _ => rfl
abbrev s__law_cut : Stmt := top 26
abbrev N__law_cut : List Str := ["_law_version", "_law_word", "_law_row", "_law_sign", "_law_one"]
theorem sc__law_cut : FnScope N__law_cut ["_law_version", "_law_word"] (defScope s__law_cut) := ⟨rfl, rfl, rfl, by decide +kernel, rfl, by decide +kernel, by decide +kernel⟩
theorem bn__law_cut : BindP "_law_cut" s__law_cut ["_law_version", "_law_word"] := fun _ _ _ _ _ _ us hl => match us, hl with | [_, _], _ => rfl
abbrev s__law_typed : Stmt := top 27
abbrev N__law_typed : List Str := ["_law_bag_here", "_law_pool", "_law_signs", "_law_at", "_law_size", "_law_word", "_law_way", "_law_stem", "_law_step"]
theorem sc__law_typed : FnScope N__law_typed ["_law_bag_here", "_law_pool"] (defScope s__law_typed) := ⟨rfl, rfl, rfl, by decide +kernel, rfl, by decide +kernel, by decide +kernel⟩
theorem bn__law_typed : BindP "_law_typed" s__law_typed ["_law_bag_here", "_law_pool"] := fun _ _ _ _ _ _ us hl => match us, hl with | [_, _], _ => rfl
abbrev s__law_odd : Stmt := top 28
abbrev N__law_odd : List Str := ["_law_bag_here", "_law_odd_here"]
theorem sc__law_odd : FnScope N__law_odd ["_law_bag_here"] (defScope s__law_odd) := ⟨rfl, rfl, rfl, by decide +kernel, rfl, by decide +kernel, by decide +kernel⟩
theorem bn__law_odd : BindP "_law_odd" s__law_odd ["_law_bag_here"] := fun _ _ _ _ _ _ us hl => match us, hl with | [_], _ => rfl
abbrev s__law_cut_told : Stmt := top 29
abbrev N__law_cut_told : List Str := ["_law_number", "_law_word", "_law_answer", "e"]
theorem sc__law_cut_told : FnScope N__law_cut_told ["_law_number", "_law_word"] (defScope s__law_cut_told) := ⟨rfl, rfl, rfl, by decide +kernel, rfl, by decide +kernel, by decide +kernel⟩
theorem bn__law_cut_told : BindP "_law_cut_told" s__law_cut_told ["_law_number", "_law_word"] := fun _ _ _ _ _ _ us hl => match us, hl with | [_, _], _ => rfl
abbrev s__law_compared : Stmt := top 30
abbrev N__law_compared : List Str := ["_law_number", "_law_first", "_law_second", "_law_answer", "e"]
theorem sc__law_compared : FnScope N__law_compared ["_law_number", "_law_first", "_law_second"] (defScope s__law_compared) := ⟨rfl, rfl, rfl, by decide +kernel, rfl, by decide +kernel, by decide +kernel⟩
theorem bn__law_compared : BindP "_law_compared" s__law_compared ["_law_number", "_law_first", "_law_second"] := fun _ _ _ _ _ _ us hl => match us, hl with | [_, _, _], _ => rfl
abbrev s__law_two : Stmt := top 31
abbrev N__law_two : List Str := ["_law_number", "_law_first", "_law_second", "_law_due"]
theorem sc__law_two : FnScope N__law_two ["_law_number", "_law_first", "_law_second"] (defScope s__law_two) := ⟨rfl, rfl, rfl, by decide +kernel, rfl, by decide +kernel, by decide +kernel⟩
theorem bn__law_two : BindP "_law_two" s__law_two ["_law_number", "_law_first", "_law_second"] := fun _ _ _ _ _ _ us hl => match us, hl with | [_, _, _], _ => rfl
abbrev s__law_refusals : Stmt := top 32
abbrev N__law_refusals : List Str := ["_law_bag_here", "_law_number", "_law_word", "_law_odd_here", "_law_other", "_law_due", "_law_row", "_law_strange", "_law_thing"]
theorem sc__law_refusals : FnScope N__law_refusals ["_law_bag_here", "_law_number", "_law_word"] (defScope s__law_refusals) := ⟨rfl, rfl, rfl, by decide +kernel, rfl, by decide +kernel, by decide +kernel⟩
theorem bn__law_refusals : BindP "_law_refusals" s__law_refusals ["_law_bag_here", "_law_number", "_law_word"] := fun _ _ _ _ _ _ us hl => match us, hl with | [_, _, _], _ => rfl
abbrev s_law : Stmt := top 33
abbrev N_law : List Str := ["_law_script", "_law_bag_here", "_law_number", "_law_pool", "_law_step", "_law_word", "_law_edition", "_law_near"]
theorem sc_law : FnScope N_law ["_law_script"] (defScope s_law) := ⟨rfl, rfl, rfl, by decide +kernel, rfl, by decide +kernel, by decide +kernel⟩
theorem bn_law : BindP "law" s_law ["_law_script"] := fun _ _ _ _ _ _ us hl => match us, hl with | [_], _ => rfl
structure Tx (P : Program) (K : PySem.W.Frag) (mg : Str → Option Value) : Prop where
  b_ValueError : mg "ValueError" = none
  b_all : mg "all" = none
  b_bool : mg "bool" = none
  b_int : mg "int" = none
  b_isinstance : mg "isinstance" = none
  b_len : mg "len" = none
  b_ord : mg "ord" = none
  b_range : mg "range" = none
  b_repr : mg "repr" = none
  b_str : mg "str" = none
  b_super : mg "super" = none
  c_HEX : Cst mg "HEX" (.str "0123456789abcdef")
  c_ROW1 : Cst mg "ROW1" (.str " etaonisrhld")
  c_ROW2 : Cst mg "ROW2" (.str "cumfpgwybvkxjqz.")
  c_ROW3 : Cst mg "ROW3" (.str "0123456789\n,'-!?")
  c_SIZES : Cst mg "SIZES" (.ref (He.ga K "SIZES"))
  c_WORD_SIGNS : Cst mg "WORD_SIGNS" (.str "abcdefghijklmnopqrstuvwxyz0123456789'-")
  g_BadText : mg "BadText" = some (.ref (He.ga K "BadText"))
  x_BadText : XC K P "BadText" "place" (He.ga K "BadText")
  e_BadText : ExcC K (He.ga K "BadText")
  g_BadVersion : mg "BadVersion" = some (.ref (He.ga K "BadVersion"))
  x_BadVersion : XC K P "BadVersion" "version" (He.ga K "BadVersion")
  e_BadVersion : ExcC K (He.ga K "BadVersion")
  g_BadWord : mg "BadWord" = some (.ref (He.ga K "BadWord"))
  x_BadWord : XC K P "BadWord" "word" (He.ga K "BadWord")
  e_BadWord : ExcC K (He.ga K "BadWord")
  g_FableError : mg "FableError" = some (.ref (He.ga K "FableError"))
  g_Version : mg "Version" = some (.ref (He.ga K "Version"))
  cl_Version : Cls K (He.ga K "Version")
  n_Version_cut : NoAttr K (He.ga K "Version") "cut"
  n_Version_half : NoAttr K (He.ga K "Version") "half"
  n_Version_link : NoAttr K (He.ga K "Version") "link"
  n_Version_marks : NoAttr K (He.ga K "Version") "marks"
  n_Version_number : NoAttr K (He.ga K "Version") "number"
  n_Version_scale : NoAttr K (He.ga K "Version") "scale"
  n_Version_width : NoAttr K (He.ga K "Version") "width"
  k_BadVersion_VE : PySem.W.kitOne K (.ref (He.ga K "BadVersion")) (.type "ValueError") = some true
  k_BadVersion_BadText : PySem.W.kitOne K (.ref (He.ga K "BadVersion")) (.ref (He.ga K "BadText")) = some false
  k_BadVersion_BadVersion : PySem.W.kitOne K (.ref (He.ga K "BadVersion")) (.ref (He.ga K "BadVersion")) = some true
  k_BadVersion_BadWord : PySem.W.kitOne K (.ref (He.ga K "BadVersion")) (.ref (He.ga K "BadWord")) = some false
  k_BadWord_VE : PySem.W.kitOne K (.ref (He.ga K "BadWord")) (.type "ValueError") = some true
  k_BadWord_BadText : PySem.W.kitOne K (.ref (He.ga K "BadWord")) (.ref (He.ga K "BadText")) = some false
  k_BadWord_BadVersion : PySem.W.kitOne K (.ref (He.ga K "BadWord")) (.ref (He.ga K "BadVersion")) = some false
  k_BadWord_BadWord : PySem.W.kitOne K (.ref (He.ga K "BadWord")) (.ref (He.ga K "BadWord")) = some true
  m_BadVersion : PySem.W.exmOne K (.ref (He.ga K "BadVersion")) (.ref (He.ga K "FableError")) = some true
  m_BadWord : PySem.W.exmOne K (.ref (He.ga K "BadWord")) (.ref (He.ga K "FableError")) = some true
  t_SIZES : tupsB K "SIZES" sizes = true
theorem tyL {K : PySem.W.Frag} {H : Hp} {p : Addr} {xs : List V} (h : H p = some (.lst xs)) : tyV K "list" (.ref p) H := .inl ⟨rfl, xs, .inl (.inl h)⟩
theorem Same.put {H H1 : Hp} {D : Addr} {o : HO} (x : Same H H1) (hD : H D = none) : Same H (upd H1 D o) := fun a o' h => by
  rw [upd_ne (ne_of_none h hD)]
  exact x a o' h
theorem none_ne {H : Hp} {a b : Addr} {o : HO} (h : H a = some o) (hb : H b = none) : a ≠ b := ne_of_none h hb
theorem cutV_lo (xs : List V) (n : Nat) : cutV xs (some (n : Int)) none = xs.drop n := by
  unfold cutV
  rw [HT.sIx_nat, HT.sIx_none]
  by_cases h : n ≤ xs.length
  · rw [Nat.min_eq_left h, List.take_of_length_le (by rw [List.length_drop]; omega)]
  · rw [Nat.min_eq_right (by omega), List.drop_of_length_le (by omega : xs.length ≤ n), List.drop_length]
    simp
theorem cutV_hi (xs : List V) (n : Nat) : cutV xs none (some (n : Int)) = xs.take n := by
  unfold cutV
  rw [HT.sIx_nat, HT.sIx_none, List.drop_zero, Nat.sub_zero]
  by_cases h : n ≤ xs.length
  · rw [Nat.min_eq_left h]
  · rw [Nat.min_eq_right (by omega), List.take_of_length_le (by omega : xs.length ≤ n), List.take_length]
theorem cutV_two (xs : List V) (a b : Nat) : cutV xs (some (a : Int)) (some (b : Int)) = (xs.drop a).take (b - a) := by
  unfold cutV
  rw [HT.sIx_nat, HT.sIx_nat]
  by_cases h : a ≤ xs.length
  · rw [Nat.min_eq_left h]
    by_cases h2 : b ≤ xs.length
    · rw [Nat.min_eq_left h2]
    · rw [Nat.min_eq_right (by omega), List.take_of_length_le (by rw [List.length_drop]; omega), List.take_of_length_le (by rw [List.length_drop]; omega)]
  · rw [Nat.min_eq_right (by omega : xs.length ≤ a), List.drop_of_length_le (by omega : xs.length ≤ a), List.drop_length]
    simp
theorem atI_ok {xs : List Int} {a : Int} (h0 : 0 ≤ a) (h : a < ((xs.map V.int).length : Nat)) : ∃ n, atI (xs.map V.int) a = some (.int n) := by
  rw [List.length_map] at h
  have e : ixN (xs.map V.int).length a = some a.toNat := by
    unfold ixN
    rw [if_pos h0, if_pos (by rw [List.length_map]; exact h)]
  unfold atI
  rw [e]
  have hl : a.toNat < xs.length := by omega
  exact ⟨xs[a.toNat], by simp [hl]⟩
theorem atI_get {α : Type} {xs : List α} {i : Nat} {v : α} (h : xs[i]? = some v) : atI xs (i : Int) = some v := by
  have hl := (List.getElem?_eq_some_iff.mp h).1
  have e : ixN xs.length (i : Int) = some i := by
    unfold ixN
    rw [if_pos (by omega), if_pos (by omega)]
    rfl
  unfold atI
  rw [e]
  exact h
theorem ixN_nat {n i : Nat} (h : i < n) : ixN n (i : Int) = some i := by
  unfold ixN
  rw [if_pos (by omega), if_pos (by omega)]
  rfl
theorem mapI_get {ns : List Int} {i : Nat} (h : i < ns.length) : (ns.map V.int)[i]? = some (.int ns[i]) := by simp [h]
theorem mapI_some {ns : List Int} {i : Nat} {x : V} (h : (ns.map V.int)[i]? = some x) : ∃ n, x = V.int n ∧ ns[i]? = some n := by
  rw [List.getElem?_map] at h
  cases e : ns[i]? with
  | none => rw [e] at h; cases h
  | some z => rw [e] at h; exact ⟨z, (Option.some.inj h).symm, rfl⟩
theorem atI_mem {α : Type} {xs : List α} {a : Int} (h0 : 0 ≤ a) (h : a < (xs.length : Nat)) : ∃ c, atI xs a = some c ∧ c ∈ xs := by
  have e : ixN xs.length a = some a.toNat := by
    unfold ixN
    rw [if_pos h0, if_pos h]
  unfold atI
  rw [e]
  have hl : a.toNat < xs.length := by omega
  exact ⟨xs[a.toNat], by simp [hl], List.getElem_mem hl⟩
abbrev mi (l : List Int) : List V := l.map V.int
theorem mi_app (a b : List Int) : mi (a ++ b) = mi a ++ mi b := List.map_append
theorem mi_len (a : List Int) : (mi a).length = a.length := List.length_map ..
theorem mi_take (a : List Int) (n : Nat) : (mi a).take n = mi (a.take n) := by unfold mi; rw [List.map_take]
theorem mi_drop (a : List Int) (n : Nat) : (mi a).drop n = mi (a.drop n) := by unfold mi; rw [List.map_drop]
def rowA : Str := " etaonisrhld"
def rowB : Str := "cumfpgwybvkxjqz."
def rowC : Str := "0123456789\n,'-!?"
abbrev S1 (c : Nat) : Str := ⟨#[c]⟩
/-- the half bytes of a sign -/
def codeL (c : Nat) : List Int :=
  if 0 ≤ Txt.find rowA (S1 c) then [Txt.find rowA (S1 c)]
  else if 0 ≤ Txt.find rowB (S1 c) then [12, Txt.find rowB (S1 c)]
  else if 0 ≤ Txt.find rowC (S1 c) then [13, Txt.find rowC (S1 c)]
  else [15, (c : Int) / 16, (c : Int) % 16]
def spCodes : Sp := fun vs H Q _ => ∃ c : Nat, vs = [.str (S1 c)] ∧ ∀ (p : Addr) (H' : Hp), Same H H' → H p = none → H' p = some (.tup ((codeL c).map V.int)) → Q (.ref p) H'
def spLCodes : Sp := fun vs H Q _ => ∃ c : Nat, vs = [.str (S1 c)] ∧ ∀ (p : Addr) (H' : Hp), Same H H' → H p = none → H' p = some (.lst ((codeL c).map V.int)) → Q (.ref p) H'
theorem foldl_app {α : Type} : ∀ (n : Nat) (x acc : Array α), ((List.replicate n x).foldl (· ++ ·) acc).toList = acc.toList ++ (List.replicate n x.toList).flatten
  | 0, x, acc => by simp
  | n + 1, x, acc => by
    rw [List.replicate_succ, List.foldl_cons, foldl_app n x (acc ++ x), List.replicate_succ, List.flatten_cons, Array.toList_append, List.append_assoc]
theorem mul_list (z : Str) (n : Int) (h0 : 0 ≤ n) : (Txt.mul z n).cps.toList = (List.replicate n.toNat z.cps.toList).flatten := by
  unfold Txt.mul
  by_cases h1 : n < 1
  · have e : n.toNat = 0 := by omega
    rw [if_pos h1, e]
    rfl
  · rw [if_neg h1]
    by_cases h2 : (n == 1 || z.length == 0) = true
    · rw [if_pos h2]
      simp only [Bool.or_eq_true, beq_iff_eq] at h2
      rcases h2 with h2 | h2
      · subst h2
        simp
      · have e : z.cps.toList = [] := List.eq_nil_of_length_eq_zero (by rw [Array.length_toList]; exact h2)
        rw [e]
        simp
    · rw [if_neg h2, foldl_app]
      simp
theorem mul_one (c : Nat) (k : Int) (k0 : 0 ≤ k) : (Txt.mul (S1 c) k).length = k.toNat ∧ (∀ x ∈ (Txt.mul (S1 c) k).cps.toList, x = c) := by
  have e := mul_list (S1 c) k k0
  have e2 : (List.replicate k.toNat [c]).flatten = List.replicate k.toNat c := by
    generalize k.toNat = n
    induction n with
    | zero => rfl
    | succ n ih => rw [List.replicate_succ, List.flatten_cons, ih, List.replicate_succ]; rfl
  have e3 : (Txt.mul (S1 c) k).cps.toList = List.replicate k.toNat c := e.trans e2
  constructor
  · show (Txt.mul (S1 c) k).cps.size = _
    rw [← Array.length_toList, e3, List.length_replicate]
  · rw [e3]
    intro x hx
    exact (List.mem_replicate.mp hx).2
theorem len_app (a b : Str) : (a ++ b).length = a.length + b.length := by
  show (a.cps ++ b.cps).size = _
  rw [Array.size_append]
  rfl
theorem list_app (a b : Str) : (a ++ b).cps.toList = a.cps.toList ++ b.cps.toList := Array.toList_append
theorem cut_sub {z : Str} {lo hi : Option Int} {c : Nat} (h : c ∈ (cutS z lo hi).cps.toList) : c ∈ z.cps.toList := by
  unfold cutS at h
  exact List.mem_of_mem_drop (List.mem_of_mem_take (by simpa using h))
theorem sIx_nat' {n d : Nat} {x : Int} (h0 : 0 ≤ x) : HT.sIx n d (some x) = min x.toNat n := by
  have e : x = (x.toNat : Int) := by omega
  rw [e]
  exact HT.sIx_nat n d x.toNat
theorem cutS_len (z : Str) (lo hi : Option Int) : (cutS z lo hi).length = min (HT.sIx z.length z.length hi - HT.sIx z.length 0 lo) (z.length - HT.sIx z.length 0 lo) := by
  show (cutS z lo hi).cps.size = _
  unfold cutS
  rw [List.size_toArray, List.length_take, List.length_drop, Array.length_toList]
  rfl
theorem cut_hi (z : Str) (x : Int) (h0 : 0 ≤ x) : (cutS z none (some x)).length ≤ x.toNat := by
  rw [cutS_len, sIx_nat' h0, HT.sIx_none]
  omega
theorem cut_two (z : Str) (x : Int) (h0 : 0 ≤ x) (h1 : x ≤ z.length) : (cutS z none (some x)).length + (cutS z (some x) none).length = z.length := by
  rw [cutS_len, cutS_len, sIx_nat' h0, sIx_nat' h0, HT.sIx_none, HT.sIx_none]
  omega
def wordSigns : Str := "abcdefghijklmnopqrstuvwxyz0123456789'-"
def isW (z : Str) : Bool := decide (z = ",") || (decide (1 ≤ z.length) && decide (z.length ≤ 20) && z.cps.toList.all fun c => decide (c ∈ wordSigns.cps.toList))
def GoodV (v : V) (n : Int) : Prop := v = .int n ∧ 1 ≤ n ∧ n ≤ 3
def BadV (H : Hp) (v : V) : Prop := (∃ t, tyv H v = some t ∧ kitB t "int" = some false) ∨ (∃ b, v = .bl b) ∨ ∃ i, v = .int i ∧ ¬ (1 ≤ i ∧ i ≤ 3)
def GoodW (w : V) (z : Str) : Prop := w = .str z ∧ z.length ≤ 1000 ∧ isW z = true
def BadW (H : Hp) (w : V) : Prop := (∃ z, w = .str z ∧ z.length ≤ 1000 ∧ isW z = false) ∨ ∃ t, tyv H w = some t ∧ kitB t "str" = some false
theorem codeL_len (c : Nat) : (codeL c).length ≤ 3 := by
  unfold codeL
  split
  · show 1 ≤ 3
    decide
  · split
    · show 2 ≤ 3
      decide
    · split
      · show 2 ≤ 3
        decide
      · show 3 ≤ 3
        decide
theorem flat_len : ∀ l : List Nat, ((l.map codeL).flatten).length ≤ 3 * l.length
  | [] => Nat.le_refl _
  | c :: l => by
    rw [List.map_cons, List.flatten_cons, List.length_append, List.length_cons]
    have := flat_len l
    have := codeL_len c
    omega
theorem tyv_same {H H' : Hp} {v : V} {t : String} (s : Same H H') (h : tyv H v = some t) : tyv H' v = some t := by
  cases v with
  | ref a =>
    unfold tyv at h ⊢
    dsimp only at h ⊢
    cases e : H a with
    | none => rw [e] at h; cases h
    | some o => rw [e] at h; rw [s a o e]; exact h
  | _ => exact h
theorem BadV.same {H H' : Hp} {v : V} (s : Same H H') (h : BadV H v) : BadV H' v := by
  rcases h with ⟨t, h1, h2⟩ | h | h
  · exact .inl ⟨t, tyv_same s h1, h2⟩
  · exact .inr (.inl h)
  · exact .inr (.inr h)
theorem BadW.same {H H' : Hp} {v : V} (s : Same H H') (h : BadW H v) : BadW H' v := by
  rcases h with h | ⟨t, h1, h2⟩
  · exact .inl h
  · exact .inr ⟨t, tyv_same s h1, h2⟩
theorem tyv_kp {b : Addr} {H H' : Hp} {v : V} {t : String} (B : Bag H b) (k : Kp b H H') (h : tyv H v = some t) : tyv H' v = some t := by
  cases v with
  | ref a =>
    by_cases e : a = b
    · obtain ⟨kvs, h1⟩ := B.some
      obtain ⟨kvs', h2⟩ := k.bag.some
      unfold tyv at h ⊢
      dsimp only at h ⊢
      rw [e, h1] at h
      rw [e, h2]
      exact h
    · unfold tyv at h ⊢
      dsimp only at h ⊢
      cases q : H a with
      | none => rw [q] at h; cases h
      | some o => rw [q] at h; rw [k.keep a o e q]; exact h
  | _ => exact h
theorem BadW.kp {b : Addr} {H H' : Hp} {v : V} (B : Bag H b) (k : Kp b H H') (h : BadW H v) : BadW H' v := by
  rcases h with h | ⟨t, h1, h2⟩
  · exact .inl h
  · exact .inr ⟨t, tyv_kp B k h1, h2⟩
def clist (z : Str) : List Int := (z.cps.toList.map codeL).flatten
def spPlain : Sp := fun vs H Q _ => ∃ z : Str, vs = [.str z] ∧ z.length ≤ 1000 ∧ ∀ (p : Addr) (H' : Hp), Same H H' → H p = none → H' p = some (.lst (mi (clist z))) → Q (.ref p) H'
def spIsInt : Sp := fun vs H Q _ => ∃ v : V, vs = [v, .int 1, .int 3] ∧ ((∃ n, GoodV v n ∧ Q (.bl true) H) ∨ (BadV H v ∧ Q (.bl false) H))
theorem putF_len (f : Str) (v : V) : ∀ (fs : List (Str × V)) (k : Nat), fs.length ≤ k → (putF f v fs).length ≤ k + 1
  | [], k, _ => by
    show 1 ≤ k + 1
    omega
  | (g, w) :: fs, k, h => by
    have h' : fs.length + 1 ≤ k := h
    unfold putF
    split
    · show fs.length + 1 ≤ k + 1
      omega
    · have := putF_len f v fs (k - 1) (by omega)
      show (putF f v fs).length + 1 ≤ k + 1
      omega
def verL (n a1 a2 a3 a4 a5 a6 : Int) : List (Str × V) := [("number", .int n), ("width", .int a1), ("scale", .int a2), ("marks", .int a3), ("link", .int a4), ("cut", .int a5), ("half", .int a6)]
def verF (n : Int) : List (Str × V) := [("number", .int n), ("width", .int (n + 1)), ("scale", .int (if n = 3 then 4 else n)), ("marks", .int (8 * n + 8)), ("link", .int (if n = 1 then 1 else 2)), ("cut", .int (4 * n + 4)), ("half", .int (2 ^ (8 * n + 7).toNat))]
def spVer (K : PySem.W.Frag) : Sp := fun vs H Q E => ∃ (x dx : Addr) (v : V), vs = [.ref x, v] ∧ H x = some (.ins (He.ga K "Version") dx []) ∧
  ((∃ n, GoodV v n ∧ ∀ H', (∀ a o, a ≠ x → H a = some o → H' a = some o) → H' x = some (.ins (He.ga K "Version") dx (verF n)) → Q .non H') ∨
   (BadV H v ∧ ∀ d H', Same H H' → H d = none → H' d = some (.xd [("version", v)]) → E (.ref (He.ga K "BadVersion")) (some d) H'))
def spIsWord : Sp := fun vs H Q _ => ∃ v : V, vs = [v] ∧ ((∃ z, v = .str z ∧ z.length ≤ 1000 ∧ ∀ H', Same H H' → Q (.bl (isW z)) H') ∨ ∃ t, tyv H v = some t ∧ kitB t "str" = some false ∧ Q (.bl false) H)
def hexc (c : Int) : Nat := ("0123456789abcdef" : Str).cps.toList.getD c.toNat 0
def hexS (l : List Int) : Str := Txt.join "" (l.map fun c => S1 (hexc c))
def cutT (n : Int) (z : Str) : Str := hexS ((clist z ++ List.replicate 16 15).take (4 * n + 4).toNat)
theorem ones_sum (cl : List Int) : ((cl.map fun c => S1 (hexc c)).map (·.length)).sum = cl.length := by
  rw [List.map_map]
  induction cl with
  | nil => rfl
  | cons c l ih =>
    rw [List.map_cons, List.sum_cons, ih]
    show 1 + l.length = l.length + 1
    omega
theorem str_ext {a b : Str} (h : a.cps.toList = b.cps.toList) : a = b := by
  cases a with
  | mk x =>
    cases b with
    | mk y =>
      have e : x = y := Array.toList_inj.mp h
      rw [e]
theorem hexS_list (l : List Int) : (hexS l).cps.toList = l.map hexc := by
  unfold hexS
  rw [join0_list, List.map_map]
  induction l with
  | nil => rfl
  | cons c l ih =>
    rw [List.map_cons, List.flatten_cons, ih]
    rfl
theorem hexS_len (l : List Int) : (hexS l).length = l.length := by
  show (hexS l).cps.size = _
  rw [← Array.length_toList, hexS_list, List.length_map]
theorem cut_eq (l : List Int) (k : Nat) (hk : k ≤ 16) : Txt.ljustF (hexS (l.take k)) (k : Int) 102 = hexS ((l ++ List.replicate 16 15).take k) := by
  apply str_ext
  rw [PyProof.Rows.ljustF_list, hexS_list, hexS_list, hexS_len, Int.toNat_natCast, List.length_take, List.take_append, List.map_append, List.take_replicate, List.map_replicate]
  congr 1
  have e : hexc 15 = 102 := by decide +kernel
  rw [e]
  congr 1
  omega
theorem word_codes : ∀ c ∈ (44 :: wordSigns.cps.toList), (codeL c).all (fun x => decide (0 ≤ x) && decide (x ≤ 15)) = true := by decide +kernel
theorem isW_mem {z : Str} (h : isW z = true) : ∀ c ∈ z.cps.toList, c ∈ (44 :: wordSigns.cps.toList) := by
  intro c hc
  unfold isW at h
  rcases Bool.or_eq_true_iff.mp h with h | h
  · have e : z = "," := of_decide_eq_true h
    rw [e] at hc
    have e2 : c = 44 := List.mem_singleton.mp hc
    rw [e2]
    exact List.mem_cons_self ..
  · have h2 := (Bool.and_eq_true_iff.mp h).2
    exact List.mem_cons_of_mem _ (of_decide_eq_true (List.all_eq_true.mp h2 c hc))
theorem clist_ok {z : Str} (h : isW z = true) : ∀ x ∈ clist z, 0 ≤ x ∧ x ≤ 15 := by
  intro x hx
  unfold clist at hx
  obtain ⟨l, hl, hx⟩ := List.mem_flatten.mp hx
  obtain ⟨c, hc, rfl⟩ := List.mem_map.mp hl
  have := List.all_eq_true.mp (word_codes c (isW_mem h c hc)) x hx
  simpa using this
theorem hex_get {x : Int} (h0 : 0 ≤ x) (h1 : x ≤ 15) : atI ("0123456789abcdef" : Str).cps.toList x = some (hexc x) := by
  have key : ∀ n : Nat, n < 16 → atI ("0123456789abcdef" : Str).cps.toList ((n : Nat) : Int) = some (hexc ((n : Nat) : Int)) := by decide +kernel
  have := key x.toNat (by omega)
  rw [show ((x.toNat : Nat) : Int) = x by omega] at this
  exact this
def spCutForm (K : PySem.W.Frag) : Sp := fun vs H Q E => ∃ v w : V, vs = [v, w] ∧
  ((BadV H v ∧ ∀ d H', Same H H' → H d = none → H' d = some (.xd [("version", v)]) → E (.ref (He.ga K "BadVersion")) (some d) H') ∨
   (∃ n, GoodV v n ∧ BadW H w ∧ ∀ d H', Same H H' → H d = none → H' d = some (.xd [("word", w)]) → E (.ref (He.ga K "BadWord")) (some d) H') ∨
   (∃ n z, GoodV v n ∧ GoodW w z ∧ ∀ H', Same H H' → Q (.str (cutT n z)) H'))
def spAlike (K : PySem.W.Frag) : Sp := fun vs H Q E => ∃ v a b : V, vs = [v, a, b] ∧
  ((BadV H v ∧ ∀ d H', Same H H' → H d = none → H' d = some (.xd [("version", v)]) → E (.ref (He.ga K "BadVersion")) (some d) H') ∨
   (∃ n, GoodV v n ∧ BadW H a ∧ ∀ d H', Same H H' → H d = none → H' d = some (.xd [("word", a)]) → E (.ref (He.ga K "BadWord")) (some d) H') ∨
   (∃ n z, GoodV v n ∧ GoodW a z ∧ BadW H b ∧ ∀ d H', Same H H' → H d = none → H' d = some (.xd [("word", b)]) → E (.ref (He.ga K "BadWord")) (some d) H') ∨
   (∃ n z y, GoodV v n ∧ GoodW a z ∧ GoodW b y ∧ ∀ H', Same H H' → Q (.bl (decide (cutT n z = cutT n y))) H'))
def spLCut : Sp := fun vs H Q _ => ∃ (n : Int) (z : Str), vs = [.int n, .str z] ∧ 1 ≤ n ∧ n ≤ 3 ∧ z.length ≤ 1000 ∧ isW z = true ∧ ∀ H', Same H H' → Q (.str (cutT n z)) H'
def WS (z : Str) : Prop := ∀ c ∈ z.cps.toList, c ∈ wordSigns.cps.toList
theorem isW_of {z : Str} (h : WS z) (h1 : 1 ≤ z.length) (h2 : z.length ≤ 20) : isW z = true := by
  unfold isW
  rw [decide_eq_true h1, decide_eq_true h2, List.all_eq_true.mpr fun c hc => decide_eq_true (h c hc)]
  simp
theorem isW_ws {z : Str} (h : isW z = true) (hn : z ≠ ",") : WS z ∧ 1 ≤ z.length := by
  unfold isW at h
  rw [decide_eq_false hn, Bool.false_or] at h
  obtain ⟨h1, h2⟩ := Bool.and_eq_true_iff.mp h
  obtain ⟨h3, h4⟩ := Bool.and_eq_true_iff.mp h1
  exact ⟨fun c hc => of_decide_eq_true (List.all_eq_true.mp h2 c hc), of_decide_eq_true h3⟩
theorem WS.app {a b : Str} (ha : WS a) (hb : WS b) : WS (a ++ b) := fun c hc => by
  rw [list_app, List.mem_append] at hc
  exact hc.elim (ha c) (hb c)
theorem WS.cut {a : Str} {lo hi : Option Int} (ha : WS a) : WS (cutS a lo hi) := fun c hc => ha c (cut_sub hc)
def typS : Str := "etaonisrhldcumfpgwybvkxjqz0123456789'-"
theorem typS_ws : WS typS := by
  have : (typS.cps.toList.all fun c => decide (c ∈ wordSigns.cps.toList)) = true := by decide +kernel
  exact fun c hc => of_decide_eq_true (List.all_eq_true.mp this c hc)
def spTyped : Sp := fun vs H Q _ => ∃ (b p : Addr) (ws : List Str), vs = [.ref b, .ref p] ∧ Bag H b ∧ H p = some (.lst (ws.map V.str)) ∧ ws.length ≤ 10 ∧ (∀ z ∈ ws, isW z = true ∧ z.length ≤ 20) ∧ ∀ (z : Str) (H' : Hp), isW z = true → z.length ≤ 20 → Kp b H H' → Q (.str z) H'
def spOdd (K : PySem.W.Frag) : Sp := fun vs H Q _ => ∃ b : Addr, vs = [.ref b] ∧ Bag H b ∧ ∀ (v : V) (d : PyData) (H' : Hp), Kp b H H' → BadW H' v → Shw K H' v d → Q v H'
def oddS : List Str := ["", Txt.mul "e" 21, Txt.mul "a" 40, "A", "aB", "a b", " a", "a ", "a,", ",,", ",a", "a.", "a_b", "a\n", "\n", "ab!"]
theorem bad_word {v : V} {H : Hp} {P : VK} {E : XK} (b : BadW H v) (k : ∀ H', Same H H' → P (.bl false) H') : spIsWord [v] H P E := by
  rcases b with ⟨z, rfl, l, h⟩ | ⟨t, h1, h2⟩
  · exact ⟨_, rfl, .inl ⟨z, rfl, l, fun H' s => by rw [h]; exact k H' s⟩⟩
  · exact ⟨_, rfl, .inr ⟨t, h1, h2, k H (Same.refl H)⟩⟩
theorem oddS_ok : (oddS.all fun z => !isW z && decide (z.length ≤ 1000) && decide ((reprText z).length ≤ sizeLine) && PyData.strOk (reprText z)) = true := by decide +kernel
theorem shw_str {K : PySem.W.Frag} {H : Hp} {z : Str} (h1 : (reprText z).length ≤ sizeLine) (h2 : isF (.str (reprText z)) = true) : Shw K H (.str z) (.str z) := ⟨.str z, rfl, rfl, (show 0 ≤ 50 by decide), h1, h2⟩
def spTold (K : PySem.W.Frag) : Sp := fun vs H Q _ => ∃ v w : V, vs = [v, w] ∧
  ((∃ d, BadV H v ∧ Shw K H v d ∧ ∀ p H', Same H H' → H' p = some (.lst [.str "version", .str d.shown]) → Q (.ref p) H') ∨
   (∃ n d, GoodV v n ∧ BadW H w ∧ Shw K H w d ∧ ∀ p H', Same H H' → H' p = some (.lst [.str "word", .str d.shown]) → Q (.ref p) H') ∨
   (∃ n z, GoodV v n ∧ GoodW w z ∧ ∀ p H', Same H H' → H' p = some (.lst [.str "told", .str (cutT n z)]) → Q (.ref p) H'))
def alikeV (n : Int) (z y : Str) : List V := [.str (if cutT n z = cutT n y then "alike" else "unlike")]
def spComp (K : PySem.W.Frag) : Sp := fun vs H Q _ => ∃ v a b : V, vs = [v, a, b] ∧
  ((∃ d, BadV H v ∧ Shw K H v d ∧ ∀ p H', Same H H' → H' p = some (.lst [.str "version", .str d.shown]) → Q (.ref p) H') ∨
   (∃ n d, GoodV v n ∧ BadW H a ∧ Shw K H a d ∧ ∀ p H', Same H H' → H' p = some (.lst [.str "word", .str d.shown]) → Q (.ref p) H') ∨
   (∃ n z d, GoodV v n ∧ GoodW a z ∧ BadW H b ∧ Shw K H b d ∧ ∀ p H', Same H H' → H' p = some (.lst [.str "word", .str d.shown]) → Q (.ref p) H') ∨
   (∃ n z y, GoodV v n ∧ GoodW a z ∧ GoodW b y ∧ ∀ p H', Same H H' → H' p = some (.lst (alikeV n z y)) → Q (.ref p) H'))
def spTwo : Sp := fun vs H Q _ => ∃ (n : Int) (z y : Str), vs = [.int n, .str z, .str y] ∧ 1 ≤ n ∧ n ≤ 3 ∧ isW z = true ∧ z.length ≤ 1000 ∧ isW y = true ∧ y.length ≤ 1000 ∧ ∀ H', Same H H' → Q (.bl true) H'
def spRef (K : PySem.W.Frag) : Sp := fun vs H Q _ => ∃ (b : Addr) (n : Int) (z : Str), vs = [.ref b, .int n, .str z] ∧ Bag H b ∧ 1 ≤ n ∧ n ≤ 3 ∧ isW z = true ∧ z.length ≤ 1000 ∧ ∀ H', Kp b H H' → Q (.bl true) H'
def spLaw (K : PySem.W.Frag) : Sp := fun vs H Q _ => ∃ (a : Addr) (ns : List Int), vs = [.ref a] ∧ SqL K H a (ns.map V.int) ∧ ns.length ≤ 1000 ∧ ∀ H', Q (.bl true) H'
theorem alike_ok (n : Int) (z y : Str) : (alikeV n z y).all isF = true := by
  unfold alikeV
  split
  · decide +kernel
  · decide +kernel
theorem getD_lt : ∀ (l : List Nat) (n : Nat), (∀ x ∈ l, x < 200) → l.getD n 0 < 200
  | [], n, _ => by
    show (0 : Nat) < 200
    decide
  | x :: l, 0, h => h x (List.mem_cons_self ..)
  | x :: l, n + 1, h => getD_lt l n fun y hy => h y (List.mem_cons_of_mem _ hy)
theorem hexc_lt (c : Int) : hexc c < 200 := by
  unfold hexc
  have key : ∀ x ∈ ("0123456789abcdef" : Str).cps.toList, x < 200 := by decide +kernel
  exact getD_lt _ _ key
theorem cut_ok (n : Int) (z : Str) : isF (.str (cutT n z)) = true := by
  show PyData.strOk (cutT n z) = true
  unfold PyData.strOk cutT
  rw [← Array.all_toList, hexS_list, List.all_eq_true]
  intro x hx
  obtain ⟨c, _, rfl⟩ := List.mem_map.mp hx
  exact decide_eq_true (Nat.lt_trans (hexc_lt c) (by decide))
theorem told_ok (n : Int) (z : Str) : ([V.str "told", V.str (cutT n z)] : List V).all isF = true := by
  show (isF (.str "told") && (isF (.str (cutT n z)) && true)) = true
  rw [cut_ok]
  decide +kernel
theorem kb_none_int : kitB "NoneType" "int" = some false := by decide +kernel
theorem kb_str_int : kitB "str" "int" = some false := by decide +kernel
theorem kb_list_int : kitB "list" "int" = some false := by decide +kernel
theorem kb_tuple_int : kitB "tuple" "int" = some false := by decide +kernel
abbrev strL (p1 p2 : Addr) : List V := [V.int 0, V.int 4, V.int (-1), V.bl true, V.bl false, V.non, V.str "1", V.ref p1, V.ref p2, V.int (10 ^ Int.toNat 30)]
theorem str_bad {K : PySem.W.Frag} {H : Hp} {p1 p2 : Addr} {v : V} (hm : v ∈ strL p1 p2) (h1 : H p1 = some (.tup [.int 1])) (h2 : H p2 = some (.lst [.int 2])) : ∃ d, BadV H v ∧ Shw K H v d := by
  simp only [strL, List.mem_cons, List.not_mem_nil, or_false] at hm
  rcases hm with rfl | rfl | rfl | rfl | rfl | rfl | rfl | rfl | rfl | rfl
  · exact ⟨.int 0, .inr (.inr ⟨_, rfl, by decide⟩), ⟨.int _, by decide, rfl, by decide, by decide +kernel, by decide +kernel⟩⟩
  · exact ⟨.int 4, .inr (.inr ⟨_, rfl, by decide⟩), ⟨.int _, by decide, rfl, by decide, by decide +kernel, by decide +kernel⟩⟩
  · exact ⟨.int (-1), .inr (.inr ⟨_, rfl, by decide⟩), ⟨.int _, by decide, rfl, by decide, by decide +kernel, by decide +kernel⟩⟩
  · exact ⟨.bool true, .inr (.inl ⟨_, rfl⟩), ⟨.bl true, by decide, rfl, by decide, by decide +kernel, by decide +kernel⟩⟩
  · exact ⟨.bool false, .inr (.inl ⟨_, rfl⟩), ⟨.bl false, by decide, rfl, by decide, by decide +kernel, by decide +kernel⟩⟩
  · exact ⟨.none, .inl ⟨_, tyv_non, kb_none_int⟩, ⟨.non, by decide, rfl, by decide, by decide +kernel, by decide +kernel⟩⟩
  · exact ⟨.str "1", .inl ⟨_, tyv_str, kb_str_int⟩, ⟨.str _, by decide, rfl, by decide, by decide +kernel, by decide +kernel⟩⟩
  · exact ⟨.tuple [.int 1], .inl ⟨_, tyv_tup h1, kb_tuple_int⟩, ⟨.tup (.inl (.inl h1)) (.cons (.int _) .nil), by decide, rfl, by decide, by decide +kernel, by decide +kernel⟩⟩
  · exact ⟨.list [.int 2], .inl ⟨_, tyv_lst h2, kb_list_int⟩, ⟨.lst (.inl (.inl h2)) (.cons (.int _) .nil), by decide, rfl, by decide, by decide +kernel, by decide +kernel⟩⟩
  · exact ⟨.int (10 ^ Int.toNat 30), .inr (.inr ⟨_, rfl, by decide +kernel⟩), ⟨.int _, by decide +kernel, rfl, by decide +kernel, by decide +kernel, by decide +kernel⟩⟩
local macro_rules | `(tactic| walk_at "rd") => `(tactic| try simp only [cx_K, L2.start, List.map_cons, List.map_nil, List.length_cons, List.length_nil, List.cons_append, List.nil_append, List.append_nil, Nat.reduceAdd, Nat.reduceSub, List.replicate, tSeq, tIfS, tTest, tB, tOp, tVar, tC, tAsg, gName, tRet, tRetN, tDrop, tCB, tCons, tNil, rI0, rI, tNext, tNot, tAnd, tOr, tIf, tAndV, tOrV, tNotV, tUn, rU, tDGet, sDPut, tCall, tCallS, tTup, tLst, tSl, tPart, tNoPart, rSlS, tM0, tM1, rIxLt, rIxTt, rIxSt, rLenL, rLenT, rLenS, rIntI, rOrd, rSlLt, tBM, tBM0, rAppend, rExtend, rRep, rCat, rIxQ, rLenQ, rTupQ, rTupL, rMin2, rAnd255, rNonIs, rNonNot, rNeL, rNeT, rEqT, rIns, rPopAt, rSetL, gSub, rExtQ, rSlQ, iList, iTup, iRng1, iRng2, iStr, tFld, sFld, gFld, gTup, tMake, tMeth, tChain, rLj, rJn, rIsBl, rNoBl, tRaiseFx, tMkFx, tAug, ipI, tCont, tBreak, gCons, gNil, rLstL, rLstT, rAllL, rAnyL, rMulS, rIsB, tYes, wipe, rEqL, rEq, rNe, scal, tyv_non, tyv_bl, tyv_int, tyv_str, kb_int_int, kb_int_bool, kb_bool_int, kb_bool_bool, kb_str_str, kb_int_str, kb_bool_str, kb_none_str, kb_list_str, kb_tuple_str, kb_dict_str, kb_tuple_tuple, kb_list_list, List.getElem?_cons_zero, List.getElem?_cons_succ, List.set_cons_zero, List.set_cons_succ, Option.some.injEq, V.int.injEq, V.str.injEq, V.bl.injEq, V.ref.injEq, V.ty.injEq, HO.lst.injEq, HO.tup.injEq, List.cons.injEq, reduceCtorEq, false_and, and_false, or_false, false_or, exists_false, and_true, true_and, exists_and_left, exists_eq_left, exists_eq_left', exists_eq, exists_eq', and_assoc, ite_dec, ite_ndec, upd_same, if_true, Bool.false_eq_true, if_false, Bool.not_true, Bool.not_false])
section
variable {P : Program} {w : World} {K : PySem.W.Frag} {mg : Str → Option Value} {base : Heap}
theorem ok_is_integer (S : Src K mg "is_integer" s_is_integer) (T : Tx P K mg)   : Cal P w K mg base CX0 1 "is_integer" ["thing", "low", "high"] spIsInt := by
  refine S.cal sc_is_integer bn_is_integer (fun vs H Q E h => ?_) (fun f cdv A outer s H vs Q E hr h => ?_)
  · first | (obtain ⟨rfl, _⟩ := h; rfl) | (obtain ⟨_, rfl, _⟩ := h; rfl) | (obtain ⟨_, _, rfl, _⟩ := h; rfl) | (obtain ⟨_, _, _, rfl, _⟩ := h; rfl) | (obtain ⟨_, _, _, _, rfl, _⟩ := h; rfl) | (obtain ⟨_, _, _, _, _, rfl, _⟩ := h; rfl) | (obtain ⟨_, _, _, _, _, _, rfl, _⟩ := h; rfl)
  · skip
    refine ⟨_, (pss_one (ps_ret (pe_and (Fx.pe_cB Fx.is_B T.b_isinstance (by decide +kernel) (Fx.pa_c (pv 0) (Fx.pa_c (pe_bltn (v := .ty "int") (by rfl) T.b_int (by decide +kernel) rfl) pa_nil))) (pe_and (pe_not (Fx.pe_cB Fx.is_B T.b_isinstance (by decide +kernel) (Fx.pa_c (pv 0) (Fx.pa_c (pe_bltn (v := .ty "bool") (by rfl) T.b_bool (by decide +kernel) rfl) pa_nil)))) (pe_one (pe_chain op_le op_le (pv 1) (pv 0) (pv 2))))))), ?_⟩
    obtain ⟨v, rfl, h⟩ := h
    walk_at "rd"
    rcases h with ⟨n, ⟨rfl, h1, h3⟩, q⟩ | ⟨hb, q⟩
    · refine ⟨_, tyv_int, _, kb_int_int, ?_⟩
      rw [if_pos rfl]
      refine ⟨_, tyv_int, _, kb_int_bool, ite_i (fun _ => ?_) (fun h => absurd rfl h)⟩
      refine ⟨n, rfl, ?_⟩
      rw [if_pos h1]
      refine ⟨n, rfl, ?_⟩
      rw [decide_eq_true h3]
      exact q
    · rcases hb with ⟨t, ht, hk⟩ | ⟨b, rfl⟩ | ⟨i, rfl, hn⟩
      · exact ⟨t, ht, _, hk, q⟩
      · refine ⟨_, tyv_bl, _, kb_bool_int, ?_⟩
        rw [if_pos rfl]
        exact ⟨_, tyv_bl, _, kb_bool_bool, q⟩
      · refine ⟨_, tyv_int, _, kb_int_int, ?_⟩
        rw [if_pos rfl]
        refine ⟨_, tyv_int, _, kb_int_bool, ite_i (fun _ => ?_) (fun h => absurd rfl h)⟩
        refine ⟨i, rfl, ite_i (fun h1 => ⟨i, rfl, ?_⟩) (fun _ => q)⟩
        rw [decide_eq_false (by omega)]
        exact q
end
section
variable {P : Program} {w : World} {K : PySem.W.Frag} {mg : Str → Option Value} {base : Heap}
theorem ok_Version_MU_initU {f0 : Addr} {fd : FuncData} (F : FunD K "__init__" "Version.__init__" (defArgs s_Version_MU_initU) (defBody s_Version_MU_initU) (defScope s_Version_MU_initU) [] [] f0 fd) (M : Mk K (He.ga K "Version") f0) (T : Tx P K mg) (C_is_integer : Cal P w K mg base CX0 1 "is_integer" ["thing", "low", "high"] spIsInt)  : CalI P w K mg base (L2.CX P w) 3 (He.ga K "Version") ["self", "version"] (spVer K) := by
  refine ⟨f0, fd, M, F.bindsN bn_Version_MU_initU, okX F sc_Version_MU_initU (fun vs H Q E h => ?_) (fun f cdv A outer s H vs Q E hr h => ?_)⟩
  · first | (obtain ⟨rfl, _⟩ := h; rfl) | (obtain ⟨_, rfl, _⟩ := h; rfl) | (obtain ⟨_, _, rfl, _⟩ := h; rfl) | (obtain ⟨_, _, _, rfl, _⟩ := h; rfl) | (obtain ⟨_, _, _, _, rfl, _⟩ := h; rfl) | (obtain ⟨_, _, _, _, _, rfl, _⟩ := h; rfl) | (obtain ⟨_, _, _, _, _, _, rfl, _⟩ := h; rfl)
  · skip
    refine ⟨_, (pss_cons (ps_if (pt_not (pt_val (Fx.pe_cal C_is_integer (hr.mono (by decide)) pass0 (Fx.pa_c (pv 1) (Fx.pa_c pe_int (Fx.pa_c pe_int pa_nil)))))) (pss_one (Fx.ps_raiseFx rfl T.x_BadVersion T.g_BadVersion T.b_super hr (takes_of rfl rfl rfl rfl) (Fx.pa_c (pv 1) pa_nil))) pss_nil)
        (pss_cons (ps_fld (pv 0) (pv 1) rfl)
        (pss_one (ps_asg (pe_ix ix_tup (Fx.pe_cst T.c_SIZES) (pe_op op_sub (pv 1) pe_int) (fun _ _ => rfl)) (pg_tup rfl (pgs_cons (Fx.pg_fld (pv 0)) (pgs_cons (Fx.pg_fld (pv 0)) (pgs_cons (Fx.pg_fld (pv 0)) (pgs_cons (Fx.pg_fld (pv 0)) (pgs_cons (Fx.pg_fld (pv 0)) (pgs_cons (Fx.pg_fld (pv 0)) pgs_nil))))))))))), ?_⟩
    obtain ⟨x, dx, v, rfl, hx, h⟩ := h
    refine seqI fun K1 k1 => ?_
    walk_at "rd"
    refine ⟨v, rfl, ?_⟩
    rcases h with ⟨n, ⟨rfl, h1, h3⟩, q⟩ | ⟨hb, q⟩
    · refine .inl ⟨n, ⟨rfl, h1, h3⟩, true, rfl, ?_⟩
      rw [if_neg (by decide)]
      refine k1 _ _ ?_
      clear k1
      obtain ⟨as, hA, hr⟩ := tupsB_ok T.t_SIZES
      obtain ⟨i, a1, a2, a3, a4, a5, a6, ei, es, ev⟩ : ∃ (i : Nat) (a1 a2 a3 a4 a5 a6 : Int), n - 1 = (i : Int) ∧ sizes[i]? = some [a1, a2, a3, a4, a5, a6] ∧ verF n = verL n a1 a2 a3 a4 a5 a6 := by
        rcases (by omega : n = 1 ∨ n = 2 ∨ n = 3) with rfl | rfl | rfl
        · exact ⟨0, 2, 1, 16, 1, 8, 32768, rfl, rfl, rfl⟩
        · exact ⟨1, 3, 2, 24, 2, 12, 8388608, rfl, rfl, rfl⟩
        · exact ⟨2, 4, 4, 32, 2, 16, 2147483648, rfl, rfl, rfl⟩
      obtain ⟨a, ha, hs⟩ := hr i _ es
      walk_at "rd"
      rw [ei]
      refine ⟨_, _, _, hx, T.cl_Version, T.n_Version_number, by decide, ?_⟩
      have l1 := putF_len "number" (.int n) [] 0 (Nat.le_refl _)
      have l2 := putF_len "width" (.int a1) _ _ l1
      have l3 := putF_len "scale" (.int a2) _ _ l2
      have l4 := putF_len "marks" (.int a3) _ _ l3
      have l5 := putF_len "link" (.int a4) _ _ l4
      have l6 := putF_len "cut" (.int a5) _ _ l5
      refine ⟨_, _, _, _, rfl, rfl, hA _, atI_get (by rw [List.getElem?_map, ha]; rfl), a, rfl, _, hs _, rfl, _, _, rfl, _, _, _, upd_same, T.cl_Version, T.n_Version_width, by omega, ?_⟩
      refine ⟨_, _, rfl, _, _, _, rfl, T.cl_Version, T.n_Version_scale, by omega, _, _, rfl, _, _, _, rfl, T.cl_Version, T.n_Version_marks, by omega, _, _, rfl, _, _, _, rfl, T.cl_Version, T.n_Version_link, by omega, _, _, rfl, _, _, _, rfl, T.cl_Version, T.n_Version_cut, by omega, _, _, rfl, _, _, _, rfl, T.cl_Version, T.n_Version_half, by omega, rfl, ?_⟩
      refine q _ (fun b o hb e => ?_) ?_
      · simp only [upd_ne hb]
        exact e
      · rw [upd_same, ev]
        rfl
    · refine .inr ⟨hb, false, rfl, ite_i (fun _ => ?_) (fun h => absurd rfl h)⟩
      intro d nd
      exact q d _ (same_new nd) nd upd_same
end
section
variable {P : Program} {w : World} {K : PySem.W.Frag} {mg : Str → Option Value} {base : Heap}
theorem ok_codes (S : Src K mg "codes" s_codes) (T : Tx P K mg)   : Cal P w K mg base CX0 1 "codes" ["sign"] spCodes := by
  refine S.cal sc_codes bn_codes (fun vs H Q E h => ?_) (fun f cdv A outer s H vs Q E hr h => ?_)
  · first | (obtain ⟨rfl, _⟩ := h; rfl) | (obtain ⟨_, rfl, _⟩ := h; rfl) | (obtain ⟨_, _, rfl, _⟩ := h; rfl) | (obtain ⟨_, _, _, rfl, _⟩ := h; rfl) | (obtain ⟨_, _, _, _, rfl, _⟩ := h; rfl) | (obtain ⟨_, _, _, _, _, rfl, _⟩ := h; rfl) | (obtain ⟨_, _, _, _, _, _, rfl, _⟩ := h; rfl)
  · skip
    refine ⟨_, (pss_cons (ps_set (i := 1) sc_codes.nd rfl (Or.inl rfl) (pe_m1 PySem.F.slot_str_find PySem.F.type_str_find mt_find (Fx.pe_cst T.c_ROW1) (pv 0)))
        (pss_cons (ps_if (pt_cmpR op_ge (pv 1) pe_int (nomark _)) (pss_one (ps_ret (pe_tup (Fx.pa_c (pv 1) pa_nil)))) pss_nil)
        (pss_cons (ps_set (i := 1) sc_codes.nd rfl (Or.inl rfl) (pe_m1 PySem.F.slot_str_find PySem.F.type_str_find mt_find (Fx.pe_cst T.c_ROW2) (pv 0)))
        (pss_cons (ps_if (pt_cmpR op_ge (pv 1) pe_int (nomark _)) (pss_one (ps_ret (pe_tup (Fx.pa_c pe_int (Fx.pa_c (pv 1) pa_nil))))) pss_nil)
        (pss_cons (ps_set (i := 1) sc_codes.nd rfl (Or.inl rfl) (pe_m1 PySem.F.slot_str_find PySem.F.type_str_find mt_find (Fx.pe_cst T.c_ROW3) (pv 0)))
        (pss_cons (ps_if (pt_cmpR op_ge (pv 1) pe_int (nomark _)) (pss_one (ps_ret (pe_tup (Fx.pa_c pe_int (Fx.pa_c (pv 1) pa_nil))))) pss_nil)
        (pss_one (ps_ret (pe_tup (Fx.pa_c pe_int (Fx.pa_c (pe_op op_fdiv (Fx.pe_cB Fx.ord_S T.b_ord (by decide +kernel) (Fx.pa_c (pv 0) pa_nil)) pe_int) (Fx.pa_c (pe_op op_andM (Fx.pe_cB Fx.ord_S T.b_ord (by decide +kernel) (Fx.pa_c (pv 0) pa_nil)) pe_int) pa_nil)))))))))))), ?_⟩
    obtain ⟨c, rfl, q⟩ := h
    walk_at "rd"
    have fin : ∀ (p : Addr) (xs : List V), xs = (codeL c).map V.int → H p = none → Q (.ref p) (upd H p (.tup xs)) := fun p xs e np => q p _ (same_new np) np (by rw [upd_same, e])
    refine ite_i (fun h1 => ⟨by decide, fun p np => fin p _ ?_ np⟩) (fun h1 => ite_i (fun h2 => ⟨by decide, fun p np => fin p _ ?_ np⟩) (fun h2 => ite_i (fun h3 => ⟨by decide, fun p np => fin p _ ?_ np⟩) (fun h3 => ⟨rfl, ⟨by decide, by decide⟩, rfl, 4, by decide, by decide, fun p np => fin p _ ?_ np⟩)))
    · unfold codeL
      rw [if_pos (show 0 ≤ Txt.find rowA (S1 c) from h1)]
      rfl
    · unfold codeL
      rw [if_neg (show ¬ 0 ≤ Txt.find rowA (S1 c) from h1), if_pos (show 0 ≤ Txt.find rowB (S1 c) from h2)]
      rfl
    · unfold codeL
      rw [if_neg (show ¬ 0 ≤ Txt.find rowA (S1 c) from h1), if_neg (show ¬ 0 ≤ Txt.find rowB (S1 c) from h2), if_pos (show 0 ≤ Txt.find rowC (S1 c) from h3)]
      rfl
    · unfold codeL
      rw [if_neg (show ¬ 0 ≤ Txt.find rowA (S1 c) from h1), if_neg (show ¬ 0 ≤ Txt.find rowB (S1 c) from h2), if_neg (show ¬ 0 ≤ Txt.find rowC (S1 c) from h3)]
      rfl
end
section
variable {P : Program} {w : World} {K : PySem.W.Frag} {mg : Str → Option Value} {base : Heap}
theorem ok_plain_codes (S : Src K mg "plain_codes" s_plain_codes) (T : Tx P K mg) (C_codes : Cal P w K mg base CX0 1 "codes" ["sign"] spCodes)  : Cal P w K mg base CX0 2 "plain_codes" ["text"] spPlain := by
  refine S.cal sc_plain_codes bn_plain_codes (fun vs H Q E h => ?_) (fun f cdv A outer s H vs Q E hr h => ?_)
  · first | (obtain ⟨rfl, _⟩ := h; rfl) | (obtain ⟨_, rfl, _⟩ := h; rfl) | (obtain ⟨_, _, rfl, _⟩ := h; rfl) | (obtain ⟨_, _, _, rfl, _⟩ := h; rfl) | (obtain ⟨_, _, _, _, rfl, _⟩ := h; rfl) | (obtain ⟨_, _, _, _, _, rfl, _⟩ := h; rfl) | (obtain ⟨_, _, _, _, _, _, rfl, _⟩ := h; rfl)
  · skip
    refine ⟨_, (pss_cons (ps_set (i := 1) sc_plain_codes.nd rfl (Or.inl rfl) (pe_lst pa_nil))
        (pss_cons (ps_for PassesOwn.never rfl (pi_str (pv 0)) (pg_name (i := 2) sc_plain_codes.nd rfl (Or.inl rfl)) (pss_one (ps_expr (pe_bm PySem.F.plainAttrs_list PySem.F.slot_list_extend PySem.F.type_list_extend mt_extQ (pv 1) (Fx.pa_c (Fx.pe_cal C_codes (hr.mono (by decide)) pass0 (Fx.pa_c (pv 2) pa_nil)) pa_nil)))))
        (pss_one (ps_ret (pv 1))))), ?_⟩
    obtain ⟨z, rfl, hz, q⟩ := h
    refine seqI fun K1 k1 => ?_
    walk_at "rd"
    refine ⟨by decide, fun p np => k1 _ _ ?_⟩
    clear k1
    refine seqI fun K1 k1 => ?_
    refine ⟨.str z, rfl, z, rfl, for_S (z := z) (fun i σ H' => ∃ v, σ = [some (.str z), some (.ref p), v] ∧ H' p = some (.lst (mi (((z.cps.toList.take i).map codeL).flatten))) ∧ Same H H') ⟨none, rfl, upd_same, same_new np⟩ ?_ ?_⟩
    · rintro i c σ H' hc ⟨v, rfl, hp, sH⟩
      clear k1
      walk_at "rd"
      refine ⟨tyL hp, c, rfl, fun p1 H1 s1 n1 h1 => ⟨p1, rfl, _, s1 _ _ hp, _, .inr h1, ?_, ?_, Same.put (sH.trans s1) np⟩⟩
      · have l1 := flat_len (z.cps.toList.take i)
        have l2 := codeL_len c
        rw [List.length_take] at l1
        have lz : z.cps.toList.length ≤ 1000 := by rw [Array.length_toList]; exact hz
        rw [mi_len, List.length_map]
        exact sz (by omega)
      · rw [List.take_add_one, hc]
        simp
    · rintro σ H' ⟨v, rfl, hp, sH⟩
      refine k1 _ _ ?_
      walk_at "rd"
      refine q p H' sH np ?_
      rw [hp, List.take_length]
      rfl
end
section
variable {P : Program} {w : World} {K : PySem.W.Frag} {mg : Str → Option Value} {base : Heap}
theorem ok_is_word (S : Src K mg "is_word" s_is_word) (T : Tx P K mg)   : Cal P w K mg base CX0 1 "is_word" ["thing"] spIsWord := by
  refine S.cal sc_is_word bn_is_word (fun vs H Q E h => ?_) (fun f cdv A outer s H vs Q E hr h => ?_)
  · first | (obtain ⟨rfl, _⟩ := h; rfl) | (obtain ⟨_, rfl, _⟩ := h; rfl) | (obtain ⟨_, _, rfl, _⟩ := h; rfl) | (obtain ⟨_, _, _, rfl, _⟩ := h; rfl) | (obtain ⟨_, _, _, _, rfl, _⟩ := h; rfl) | (obtain ⟨_, _, _, _, _, rfl, _⟩ := h; rfl) | (obtain ⟨_, _, _, _, _, _, rfl, _⟩ := h; rfl)
  · skip
    refine ⟨_, (pss_cons (ps_if (pt_not (pt_val (Fx.pe_cB Fx.is_B T.b_isinstance (by decide +kernel) (Fx.pa_c (pv 0) (Fx.pa_c (pe_bltn (v := .ty "str") (by rfl) T.b_str (by decide +kernel) rfl) pa_nil))))) (pss_one (ps_ret pe_bl)) pss_nil)
        (pss_cons (ps_if (pt_cmpR op_eq (pv 0) pe_str (nomark _)) (pss_one (ps_ret pe_bl)) pss_nil)
        (pss_one (ps_ret (pe_and (pe_chain op_le op_le pe_int (Fx.pe_cB Fx.len_S T.b_len (by decide +kernel) (Fx.pa_c (pv 0) pa_nil)) pe_int) (pe_one (Fx.pe_cB (Fx.all_L rfl) T.b_all (by decide +kernel) (Fx.pa_c (pe_lc (own := [("sign", 1)]) rfl sc_is_word.nd (pi_str (pv 0)) (blkOk_by (N := N_is_word) (sc := defScope s_is_word) (by decide +kernel)) (fun _ _ _ _ _ => (pg_name (i := 1) sc_is_word.nd rfl (Or.inl rfl))) (fun _ _ _ _ _ => pts_nil) (fun _ _ _ _ _ => (pe_cmpR op_in_sign (pv 1) (Fx.pe_cst T.c_WORD_SIGNS) rfl))) pa_nil)))))))), ?_⟩
    obtain ⟨v, rfl, h⟩ := h
    refine seqI fun K1 k1 => ?_
    walk_at "rd"
    rcases h with ⟨z, rfl, hz, q⟩ | ⟨t, ht, hk, q⟩
    · refine ⟨_, tyv_str, _, kb_str_str, ?_⟩
      refine ite_i (fun h => absurd h (by decide)) (fun _ => k1 _ _ ?_)
      clear k1
      refine seqI fun K1 k1 => ?_
      walk_at "rd"
      refine ite_i (fun h0 => ?_) (fun h0 => k1 _ _ ?_)
      · have e : isW z = true := by unfold isW; rw [decide_eq_true h0]; rfl
        rw [← e]
        exact q H (Same.refl H)
      clear k1
      have e0 : isW z = (decide (1 ≤ z.length) && decide (z.length ≤ 20) && z.cps.toList.all fun c => decide (c ∈ wordSigns.cps.toList)) := by unfold isW; rw [decide_eq_false h0]; rfl
      rw [e0] at q
      have lz : z.cps.toList.length = z.length := Array.length_toList
      walk_at "rd"
      refine ⟨sz (by omega), ite_i (fun h1 => ite_i (fun h2 => ?_) (fun h2 => ?_)) (fun h1 => ?_)⟩
      · refine ⟨.str z, rfl, z, rfl, fun D nD => ?_⟩
        refine lc_S (z := z) (fun i H2 => H2 = upd H D (.lst (((z.cps.toList.take i).map fun c => decide (c ∈ wordSigns.cps.toList)).map V.bl))) rfl ?_ ?_
        · rintro i c H2 hc rfl
          refine ⟨rfl, ?_⟩
          walk_at "rd"
          refine ⟨c, rfl, ?_, ?_⟩
          · rw [List.length_map, List.length_map, List.length_take]
            exact Nat.lt_of_lt_of_le (by omega : _ < 2000) (by decide)
          · rw [upd_upd, List.take_add_one, hc]
            simp [wordSigns]
        · rintro H2 rfl
          refine ⟨D, rfl, _, upd_same, ?_⟩
          rw [List.take_length]
          have e1 : ((z.cps.toList.map fun c => decide (c ∈ wordSigns.cps.toList)).all id) = (decide (1 ≤ z.length) && decide (z.length ≤ 20) && z.cps.toList.all fun c => decide (c ∈ wordSigns.cps.toList)) := by
            rw [decide_eq_true (by omega : 1 ≤ z.length), decide_eq_true (by omega : z.length ≤ 20), List.all_map]
            rfl
          rw [e1]
          exact q _ (same_new nD)
      · rw [decide_eq_false (by omega : ¬ z.length ≤ 20), Bool.and_false, Bool.false_and] at q
        exact q H (Same.refl H)
      · rw [decide_eq_false (by omega : ¬ 1 ≤ z.length), Bool.false_and, Bool.false_and] at q
        exact q H (Same.refl H)
    · exact ⟨t, ht, _, hk, ite_i (fun _ => q) (fun h => absurd rfl h)⟩
end
section
variable {P : Program} {w : World} {K : PySem.W.Frag} {mg : Str → Option Value} {base : Heap}
theorem ok_cut_form (S : Src K mg "cut_form" s_cut_form) (T : Tx P K mg) (C_Version_MU_initU : CalI P w K mg base (L2.CX P w) 3 (He.ga K "Version") ["self", "version"] (spVer K)) (C_is_word : Cal P w K mg base CX0 1 "is_word" ["thing"] spIsWord) (C_plain_codes : Cal P w K mg base CX0 2 "plain_codes" ["text"] spPlain)  : Cal P w K mg base (L2.CX P w) 5 "cut_form" ["version", "word"] (spCutForm K) := by
  refine S.calX sc_cut_form bn_cut_form (fun vs H Q E h => ?_) (fun f cdv A outer s H vs Q E hr h => ?_)
  · first | (obtain ⟨rfl, _⟩ := h; rfl) | (obtain ⟨_, rfl, _⟩ := h; rfl) | (obtain ⟨_, _, rfl, _⟩ := h; rfl) | (obtain ⟨_, _, _, rfl, _⟩ := h; rfl) | (obtain ⟨_, _, _, _, rfl, _⟩ := h; rfl) | (obtain ⟨_, _, _, _, _, rfl, _⟩ := h; rfl) | (obtain ⟨_, _, _, _, _, _, rfl, _⟩ := h; rfl)
  · skip
    refine ⟨_, (pss_cons (ps_set (i := 2) sc_cut_form.nd rfl (Or.inl rfl) (pe_fld (Fx.pe_mk C_Version_MU_initU (hr.mono (by decide)) T.g_Version (passes_call (takes_of rfl rfl rfl rfl) (fun _ _ _ _ z => z)) (Fx.pa_c (pv 0) pa_nil)) rfl))
        (pss_cons (ps_if (pt_not (pt_val (Fx.pe_cal C_is_word (hr.mono (by decide)) pass0 (Fx.pa_c (pv 1) pa_nil)))) (pss_one (Fx.ps_raiseFx rfl T.x_BadWord T.g_BadWord T.b_super hr (takes_of rfl rfl rfl rfl) (Fx.pa_c (pv 1) pa_nil))) pss_nil)
        (pss_cons (ps_set (i := 3) sc_cut_form.nd rfl (Or.inl rfl) (pe_slice Fx.sl_L (Fx.pe_cal C_plain_codes (hr.mono (by decide)) pass0 (Fx.pa_c (pv 1) pa_nil)) po_none (po_some (pv 2))))
        (pss_one (ps_ret (pe_bm PySem.F.plainAttrs_str PySem.F.slot_str_ljust PySem.F.type_str_ljust Fx.mt_lj (pe_m1 PySem.F.slot_str_join PySem.F.type_str_join Fx.mt_jn pe_str (pe_lc (own := [("code", 4)]) rfl sc_cut_form.nd (pi_list (pv 3)) (blkOk_by (N := N_cut_form) (sc := defScope s_cut_form) (by decide +kernel)) (fun _ _ _ _ _ => (pg_name (i := 4) sc_cut_form.nd rfl (Or.inl rfl))) (fun _ _ _ _ _ => pts_nil) (fun _ _ _ _ _ => (pe_ix Fx.ix_S (Fx.pe_cst T.c_HEX) (pv 4) (fun _ _ => rfl))))) (Fx.pa_c (pv 2) (Fx.pa_c pe_str pa_nil)))))))), ?_⟩
    obtain ⟨v, w, rfl, h⟩ := h
    refine seqI fun K1 k1 => ?_
    walk_at "rd"
    intro x dx nx ndx ne
    have sx : Same H (upd (upd H dx (.own x)) x (.ins (He.ga K "Version") dx [])) := fun b o e => by
      rw [upd_ne (ne_of_none e nx), upd_ne (ne_of_none e ndx)]
      exact e
    refine ⟨x, dx, v, rfl, upd_same, ?_⟩
    rcases h with ⟨hb, q⟩ | ⟨n, hg, hw, q⟩ | ⟨n, z, hg, hw, q⟩
    · exact .inr ⟨hb.same sx, fun d H' s' nd hd => q d H' (sx.trans s') (sx.free nd) hd⟩
    · refine .inl ⟨n, hg, fun H1 hk hx1 => ⟨rfl, _, _, _, hx1, T.cl_Version, T.n_Version_cut, _, rfl, k1 _ _ ?_⟩⟩
      have s1 : Same H H1 := fun b o e => hk b o (ne_of_none e nx) (sx b o e)
      clear k1
      refine seqI fun K1 k1 => ?_
      walk_at "rd"
      refine ⟨w, rfl, ?_⟩
      rcases hw.same s1 with ⟨z, rfl, hz, hw⟩ | ⟨t, ht, hk2⟩
      · refine .inl ⟨z, rfl, hz, fun H2 s2 => ⟨_, rfl, ?_⟩⟩
        rw [hw]
        exact ite_i (fun _ => fun d nd => q d _ ((s1.trans s2).trans (same_new nd)) ((s1.trans s2).free nd) upd_same) (fun h => absurd rfl h)
      · exact .inr ⟨t, ht, hk2, _, rfl, ite_i (fun _ => fun d nd => q d _ (s1.trans (same_new nd)) (s1.free nd) upd_same) (fun h => absurd rfl h)⟩
    · refine .inl ⟨n, hg, fun H1 hk hx1 => ⟨rfl, _, _, _, hx1, T.cl_Version, T.n_Version_cut, _, rfl, k1 _ _ ?_⟩⟩
      have s1 : Same H H1 := fun b o e => hk b o (ne_of_none e nx) (sx b o e)
      clear k1
      refine seqI fun K1 k1 => ?_
      walk_at "rd"
      obtain ⟨rfl, hz, hw⟩ := hw
      refine ⟨_, rfl, .inl ⟨z, rfl, hz, fun H2 s2 => ⟨_, rfl, ?_⟩⟩⟩
      rw [hw]
      refine ite_i (fun h => absurd h (by decide)) (fun _ => k1 _ _ ?_)
      clear k1
      refine seqI fun K1 k1 => ?_
      walk_at "rd"
      refine ⟨z, rfl, hz, fun p H3 s3 np hp => ⟨p, rfl, _, hp, fun p2 n2 => k1 _ _ ?_⟩⟩
      clear k1
      obtain ⟨k, hk, ek⟩ : ∃ k : Nat, k ≤ 16 ∧ 4 * n + 4 = (k : Int) := ⟨(4 * n + 4).toNat, by have := hg.2; omega, by have := hg.2; omega⟩
      unfold cutT at q
      rw [ek] at q
      rw [ek, cutV_hi, mi_take]
      have hin := clist_ok hw
      have s4 := same_new (o := .lst (mi ((clist z).take k))) n2
      have hp2 : (upd H3 p2 (.lst (mi ((clist z).take k)))) p2 = some (.lst (mi ((clist z).take k))) := upd_same
      generalize upd H3 p2 (.lst (mi ((clist z).take k))) = H4 at s4 hp2
      have e0 := cut_eq (clist z) k hk
      rw [Int.toNat_natCast, ← e0] at q
      have hin2 : ∀ x ∈ (clist z).take k, 0 ≤ x ∧ x ≤ 15 := fun x hx => hin x (List.mem_of_mem_take hx)
      have ll : ((clist z).take k).length ≤ 16 := by rw [List.length_take]; omega
      generalize (clist z).take k = cl at *
      refine ⟨⟨_, rfl⟩, .ref p2, rfl, p2, rfl, ⟨_, .inl (.inl hp2)⟩, fun D nD => ?_⟩
      refine lc_list (K := K) (a := p2) (xs := mi cl) (fun i H5 => H5 = upd H4 D (.lst (((cl.take i).map fun c => S1 (hexc c)).map V.str))) rfl (fun i H5 _ e => ?_) ?_ ?_
      · rw [e]
        exact .inl (.inl (same_new nD _ _ hp2))
      · rintro i x H5 hx rfl
        obtain ⟨y, rfl, hy⟩ := mapI_some hx
        have hb := hin2 y (List.mem_of_getElem? hy)
        have hi := (List.getElem?_eq_some_iff.mp hy).1
        refine ⟨rfl, ?_⟩
        walk_at "rd"
        refine ⟨by decide, _, hex_get hb.1 hb.2, ?_, ?_⟩
        · rw [List.length_map, List.length_map, List.length_take]
          exact Nat.lt_of_lt_of_le (by omega : _ < 100) (by decide)
        · rw [upd_upd, List.take_add_one, hy]
          simp
      · rintro H5 rfl
        rw [List.take_of_length_le (by rw [mi_len]; exact Nat.le_refl _)]
        refine ⟨_, D, cl.map fun c => S1 (hexc c), rfl, rfl, upd_same, ?_, rfl, ?_⟩
        · have e1 : ((cl.map fun c => S1 (hexc c)).map (·.length)).sum = cl.length := by
            rw [List.map_map]
            clear ll hin2 e0 q hp2 s4 nD
            induction cl with
            | nil => rfl
            | cons c l ih =>
              rw [List.map_cons, List.sum_cons, ih]
              show 1 + l.length = l.length + 1
              omega
          have e2 : (("" : Str)).length = 0 := rfl
          rw [e1, e2]
          omega
        · walk_at "rd"
          refine ⟨?_, rfl, ?_⟩
          · have key : ∀ m : Nat, m < 17 → PadOk ((m : Nat) : Int) = true := by decide +kernel
            exact key k (by omega)
          · exact q _ (((s1.trans s2).trans s3).trans (s4.trans (same_new nD)))
end
section
variable {P : Program} {w : World} {K : PySem.W.Frag} {mg : Str → Option Value} {base : Heap}
theorem ok_alike (S : Src K mg "alike" s_alike) (T : Tx P K mg) (C_cut_form : Cal P w K mg base (L2.CX P w) 5 "cut_form" ["version", "word"] (spCutForm K))  : Cal P w K mg base (L2.CX P w) 6 "alike" ["version", "first", "second"] (spAlike K) := by
  refine S.calX sc_alike bn_alike (fun vs H Q E h => ?_) (fun f cdv A outer s H vs Q E hr h => ?_)
  · first | (obtain ⟨rfl, _⟩ := h; rfl) | (obtain ⟨_, rfl, _⟩ := h; rfl) | (obtain ⟨_, _, rfl, _⟩ := h; rfl) | (obtain ⟨_, _, _, rfl, _⟩ := h; rfl) | (obtain ⟨_, _, _, _, rfl, _⟩ := h; rfl) | (obtain ⟨_, _, _, _, _, rfl, _⟩ := h; rfl) | (obtain ⟨_, _, _, _, _, _, rfl, _⟩ := h; rfl)
  · skip
    refine ⟨_, (pss_one (ps_ret (pe_cmpR op_eq (Fx.pe_cal C_cut_form (hr.mono (by decide)) (passes_call (takes_of rfl rfl rfl rfl) (fun _ _ _ _ z => z)) (Fx.pa_c (pv 0) (Fx.pa_c (pv 1) pa_nil))) (Fx.pe_cal C_cut_form (hr.mono (by decide)) (passes_call (takes_of rfl rfl rfl rfl) (fun _ _ _ _ z => z)) (Fx.pa_c (pv 0) (Fx.pa_c (pv 2) pa_nil))) (nomark _)))), ?_⟩
    obtain ⟨v, a, b, rfl, h⟩ := h
    walk_at "rd"
    refine ⟨v, a, rfl, ?_⟩
    rcases h with ⟨hb, q⟩ | ⟨n, hg, hw, q⟩ | ⟨n, z, hg, hz, hw, q⟩ | ⟨n, z, y, hg, hz, hy, q⟩
    · exact .inl ⟨hb, q⟩
    · exact .inr (.inl ⟨n, hg, hw, q⟩)
    · refine .inr (.inr ⟨n, z, hg, hz, fun H1 s1 => ⟨v, b, rfl, .inr (.inl ⟨n, hg, hw.same s1, fun d H' s' nd hd => q d H' (s1.trans s') (s1.free nd) hd⟩)⟩⟩)
    · refine .inr (.inr ⟨n, z, hg, hz, fun H1 s1 => ⟨v, b, rfl, .inr (.inr ⟨n, y, hg, hy, fun H2 s2 => ⟨rfl, ?_⟩⟩)⟩⟩)
      have e : decide (V.str (cutT n z) = V.str (cutT n y)) = decide (cutT n z = cutT n y) := by simp
      rw [e]
      exact q _ (s1.trans s2)
end
section
variable {P : Program} {w : World} {K : PySem.W.Frag} {mg : Str → Option Value} {base : Heap}
theorem ok__law_bag (S : Src K mg "_law_bag" s__law_bag) (T : Tx P K mg)   : Cal P w K mg base CX0 1 "_law_bag" ["_law_script"] (spBag K) := by
  refine S.cal sc__law_bag bn__law_bag (fun vs H Q E h => ?_) (fun f cdv A outer s H vs Q E hr h => ?_)
  · first | (obtain ⟨rfl, _⟩ := h; rfl) | (obtain ⟨_, rfl, _⟩ := h; rfl) | (obtain ⟨_, _, rfl, _⟩ := h; rfl) | (obtain ⟨_, _, _, rfl, _⟩ := h; rfl) | (obtain ⟨_, _, _, _, rfl, _⟩ := h; rfl) | (obtain ⟨_, _, _, _, _, rfl, _⟩ := h; rfl) | (obtain ⟨_, _, _, _, _, _, rfl, _⟩ := h; rfl)
  · skip
    refine ⟨_, (pss_cons (ps_set (i := 1) sc__law_bag.nd rfl (Or.inl rfl) pe_int)
        (pss_cons (ps_for PassesOwn.never rfl (pi_list (pv 0)) (pg_name (i := 2) sc__law_bag.nd rfl (Or.inl rfl)) (pss_one (ps_set (i := 1) sc__law_bag.nd rfl (Or.inl rfl) (pe_op op_mod (Fx.pe_cTy Fx.int_I T.b_int (by decide +kernel) (Fx.pa_c (pe_op op_add (pe_op op_add (pe_op op_mul (pv 1) pe_int) (pv 2)) pe_int) pa_nil)) pe_int))))
        (pss_one (ps_ret (pe_disp (pps_cons pe_str (pe_lc (own := [("_law_cell", 2)]) rfl sc__law_bag.nd (pi_list (pv 0)) (blkOk_by (N := N__law_bag) (sc := defScope s__law_bag) (by decide +kernel)) (fun _ _ _ _ _ => (pg_name (i := 2) sc__law_bag.nd rfl (Or.inl rfl))) (fun _ _ _ _ _ => pts_nil) (fun _ _ _ _ _ => (pv 2))) (pps_cons pe_str pe_int (pps_cons pe_str pe_int (pps_cons pe_str (pv 1) (pps_cons pe_str pe_int pps_nil))))) (by rfl) (by rfl) (fun z => by cases z) (by decide)))))), ?_⟩
    obtain ⟨a, ns, rfl, hS, hlen, q⟩ := h
    refine seqI fun K1 k1 => ?_
    walk_at "rd"
    refine k1 _ _ ?_
    refine seqI fun K2 k2 => ?_
    refine ⟨_, rfl, a, rfl, ⟨_, hS⟩, for_list (K := K) (a := a) (xs := ns.map V.int) (fun i σ H' => ∃ (m : Int) (v : Option V), σ = [some (.ref a), some (.int m), v] ∧ H' = H) ⟨7, none, rfl, rfl⟩ (fun i σ H' _ ⟨_, _, _, e⟩ => by rw [e]; exact hS) ?_ ?_⟩
    · rintro i y σ H' hi ⟨m, v, rfl, rfl⟩
      obtain ⟨z, rfl⟩ : ∃ z, y = V.int z := by
        rw [List.getElem?_map] at hi
        cases e : ns[i]? with
        | none => rw [e] at hi; cases hi
        | some z => rw [e] at hi; exact ⟨z, (Option.some.inj hi).symm⟩
      walk_at "rd"
      exact ⟨.inr ⟨by decide, by decide⟩, by decide⟩
    · rintro σ H' ⟨m, v, rfl, rfl⟩
      refine k2 _ _ ?_
      intro p np
      refine ⟨.ref a, rfl, a, rfl, ⟨_, (same_new np).seq hS⟩, fun D hD => ?_⟩
      have hDp : D ≠ p := fun e => by rw [e, upd_same] at hD; cases hD
      refine lc_list (K := K) (a := a) (xs := ns.map V.int) (fun i H2 => H2 = upd (upd H' p (.dK [])) D (.lst ((ns.map V.int).take i))) rfl (fun i H2 _ e => ?_) ?_ ?_
      · rw [e]
        exact ((same_new np).trans (same_new hD)).seq hS
      · rintro i x H2 hx rfl
        refine ⟨rfl, ?_⟩
        walk_at "rd"
        refine ⟨?_, ?_⟩
        · rw [List.length_take]
          exact Nat.lt_of_le_of_lt (Nat.min_le_right _ _) (by rw [List.length_map]; exact Nat.lt_of_le_of_lt hlen (by decide))
        · rw [upd_upd, List.take_add_one, hx]
          rfl
      · rintro H2 rfl
        simp only [tPairs]
        walk_at "rd"
        have hpD : p ≠ D := fun e => hDp e.symm
        refine ⟨by rw [upd_ne hpD, upd_same], [(.inr "cells", .ref D), (.inr "at", .int 0), (.inr "rest", .int 0), (.inr "mixed", .int m), (.inr "count", .int 0)], rfl, (show 5 ≤ 15 by decide), ?_⟩
        refine q p _ (fun b o e => ?_) np ⟨D, ns, 0, 0, m, 0, upd_same, ?_, by decide⟩
        · rw [upd_ne (ne_of_none e np), upd_ne (ne_of_none (same_new np (o := .dK []) b o e) hD), upd_ne (ne_of_none e np)]
          exact e
        · rw [upd_ne hDp, upd_same, List.take_length]
end
section
variable {P : Program} {w : World} {K : PySem.W.Frag} {mg : Str → Option Value} {base : Heap}
theorem ok__law_pick (S : Src K mg "_law_pick" s__law_pick) (T : Tx P K mg)   : Cal P w K mg base CX0 1 "_law_pick" ["_law_bag_here", "_law_many"] spPick := by
  refine S.cal sc__law_pick bn__law_pick (fun vs H Q E h => ?_) (fun f cdv A outer s H vs Q E hr h => ?_)
  · first | (obtain ⟨rfl, _⟩ := h; rfl) | (obtain ⟨_, rfl, _⟩ := h; rfl) | (obtain ⟨_, _, rfl, _⟩ := h; rfl) | (obtain ⟨_, _, _, rfl, _⟩ := h; rfl) | (obtain ⟨_, _, _, _, rfl, _⟩ := h; rfl) | (obtain ⟨_, _, _, _, _, rfl, _⟩ := h; rfl) | (obtain ⟨_, _, _, _, _, _, rfl, _⟩ := h; rfl)
  · skip
    refine ⟨_, (pss_cons (ps_dput (hu_of hr) (pv 0) pe_str (pe_op op_add (pe_dget (hu_of hr) (pv 0) pe_str (fun _ _ => rfl)) pe_int) rfl)
        (pss_cons (ps_if (pt_cmpR op_gt (pe_dget (hu_of hr) (pv 0) pe_str (fun _ _ => rfl)) pe_int (nomark _)) (pss_cons (ps_set (i := 2) sc__law_pick.nd rfl (Or.inl rfl) (pe_dget (hu_of hr) (pv 0) pe_str (fun _ _ => rfl)))
        (pss_cons (ps_dput (hu_of hr) (pv 0) pe_str (pe_op op_fdiv (pv 2) (pv 1)) rfl)
        (pss_one (ps_ret (pe_op op_mod (Fx.pe_cTy Fx.int_I T.b_int (by decide +kernel) (Fx.pa_c (pv 2) pa_nil)) (pv 1)))))) pss_nil)
        (pss_cons (ps_set (i := 3) sc__law_pick.nd rfl (Or.inl rfl) pe_int)
        (pss_cons (ps_if (pt_cmpR op_lt (pe_dget (hu_of hr) (pv 0) pe_str (fun _ _ => rfl)) (Fx.pe_cB Fx.len_L T.b_len (by decide +kernel) (Fx.pa_c (pe_dget (hu_of hr) (pv 0) pe_str (fun _ _ => rfl)) pa_nil)) (nomark _)) (pss_cons (ps_set (i := 3) sc__law_pick.nd rfl (Or.inl rfl) (pe_ix Fx.ix_L (pe_dget (hu_of hr) (pv 0) pe_str (fun _ _ => rfl)) (pe_dget (hu_of hr) (pv 0) pe_str (fun _ _ => rfl)) (fun _ _ => rfl)))
        (pss_cons (ps_dput (hu_of hr) (pv 0) pe_str (pe_op op_add (pe_dget (hu_of hr) (pv 0) pe_str (fun _ _ => rfl)) pe_int) rfl)
        (pss_one (ps_if (pt_cmpR op_ge (pv 3) (pe_op op_pow pe_int pe_int) (nomark _)) (pss_cons (ps_dput (hu_of hr) (pv 0) pe_str (pe_op op_fdiv (pv 3) (pv 1)) rfl)
        (pss_one (ps_ret (pe_op op_mod (Fx.pe_cTy Fx.int_I T.b_int (by decide +kernel) (Fx.pa_c (pv 3) pa_nil)) (pv 1))))) pss_nil)))) pss_nil)
        (pss_cons (ps_set (i := 2) sc__law_pick.nd rfl (Or.inl rfl) (pe_op op_mod (Fx.pe_cTy Fx.int_I T.b_int (by decide +kernel) (Fx.pa_c (pe_op op_add (pe_op op_add (pe_op op_mul (pv 3) pe_int) (pe_op op_mul (pe_dget (hu_of hr) (pv 0) pe_str (fun _ _ => rfl)) pe_int)) (pe_op op_mul (pe_dget (hu_of hr) (pv 0) pe_str (fun _ _ => rfl)) pe_int)) pa_nil)) pe_int))
        (pss_cons (ps_set (i := 2) sc__law_pick.nd rfl (Or.inl rfl) (pe_op op_mod (Fx.pe_cTy Fx.int_I T.b_int (by decide +kernel) (Fx.pa_c (pe_op op_add (pe_op op_mul (pv 2) pe_int) pe_int) pa_nil)) pe_int))
        (pss_cons (ps_dput (hu_of hr) (pv 0) pe_str (pe_op op_mod (Fx.pe_cTy Fx.int_I T.b_int (by decide +kernel) (Fx.pa_c (pv 2) pa_nil)) pe_int) rfl)
        (pss_one (ps_ret (pe_op op_mod (Fx.pe_cTy Fx.int_I T.b_int (by decide +kernel) (Fx.pa_c (pe_op op_fdiv (pv 2) pe_int) pa_nil)) (pv 1))))))))))), ?_⟩
    obtain ⟨b, many, rfl, ⟨c, ns, a, r, m, n, hb, hc, ha⟩, h0, h1, q⟩ := h
    have hcb : c ≠ b := ne_of hc hb (by intro z; cases z)
    have hu : ∀ o, upd H b o c = some (.lst (ns.map V.int)) := fun o => by rw [upd_ne hcb]; exact hc
    walk_at "rd"
    simp only [dget_s hb, dput_s hb bag_len, dget_su, dput_su bag_len, bag_cells, bag_at, bag_rest, bag_mixed, bag_count, bag_atP, bag_restP, bag_mixedP, bag_countP, Option.some.injEq, exists_eq_left, exists_eq_left', V.int.injEq, V.ref.injEq, HO.lst.injEq, hu]
    have fin : ∀ (x y z u : Int) (n : Int), 0 ≤ n → n < many → 0 ≤ x → Q (.int n) (upd H b (.dK (bagKV c x y z u))) := fun x y z u n g1 g2 g3 =>
      q n _ g1 g2 ⟨fun p o hp e => by rw [upd_ne hp]; exact e, ⟨c, ns, x, y, z, u, upd_same, hu _, g3⟩, fun c' ⟨ns', x', y', z', u', e1, e2, e3⟩ => by
        rw [hb] at e1
        have ec : c = c' := by
          simp only [Option.some.injEq, HO.dK.injEq, bagKV, List.cons.injEq, Prod.mk.injEq, V.ref.injEq, true_and] at e1
          exact e1.1
        subst ec
        exact ⟨ns, x, y, z, u, upd_same, hu _, g3⟩⟩
    have mm : ∀ x : Int, 0 ≤ x % many ∧ x % many < many := fun x => ⟨Int.emod_nonneg _ (by omega), Int.emod_lt_of_pos _ h0⟩
    refine ite_i (fun hr => ⟨⟨h0, h1⟩, h0, fin _ _ _ _ _ (mm _).1 (mm _).2 ha⟩) (fun hr => ?_)
    refine ite_i (fun hl => ?_) (fun hl => ?_)
    · obtain ⟨x, ex⟩ := atI_ok ha hl
      refine ⟨.int x, ex, ?_⟩
      simp only [V.int.injEq, exists_eq_left', exists_eq_left]
      refine ⟨⟨by decide, by decide, by decide⟩, ite_i (fun hx => ⟨⟨h0, h1⟩, h0, fin _ _ _ _ _ (mm _).1 (mm _).2 (by omega)⟩) (fun hx => ?_)⟩
      exact ⟨.inr ⟨by decide, by decide⟩, .inr ⟨by decide, by decide⟩, .inr ⟨by decide, by decide⟩, by decide, .inr ⟨by decide, by decide⟩, by decide, by decide, ⟨by decide, by decide⟩, h0, fin _ _ _ _ _ (mm _).1 (mm _).2 (by omega)⟩
    · exact ⟨.inr ⟨by decide, by decide⟩, .inr ⟨by decide, by decide⟩, .inr ⟨by decide, by decide⟩, by decide, .inr ⟨by decide, by decide⟩, by decide, by decide, ⟨by decide, by decide⟩, h0, fin _ _ _ _ _ (mm _).1 (mm _).2 ha⟩
end
section
variable {P : Program} {w : World} {K : PySem.W.Frag} {mg : Str → Option Value} {base : Heap}
theorem ok__law_codes (S : Src K mg "_law_codes" s__law_codes) (T : Tx P K mg)   : Cal P w K mg base CX0 1 "_law_codes" ["_law_sign"] spLCodes := by
  refine S.cal sc__law_codes bn__law_codes (fun vs H Q E h => ?_) (fun f cdv A outer s H vs Q E hr h => ?_)
  · first | (obtain ⟨rfl, _⟩ := h; rfl) | (obtain ⟨_, rfl, _⟩ := h; rfl) | (obtain ⟨_, _, rfl, _⟩ := h; rfl) | (obtain ⟨_, _, _, rfl, _⟩ := h; rfl) | (obtain ⟨_, _, _, _, rfl, _⟩ := h; rfl) | (obtain ⟨_, _, _, _, _, rfl, _⟩ := h; rfl) | (obtain ⟨_, _, _, _, _, _, rfl, _⟩ := h; rfl)
  · skip
    refine ⟨_, (pss_cons (ps_set (i := 1) sc__law_codes.nd rfl (Or.inl rfl) (pe_lst (Fx.pa_c pe_str (Fx.pa_c pe_str (Fx.pa_c pe_str pa_nil)))))
        (pss_cons (ps_for PassesOwn.never rfl (pi_range1 rfl T.b_range (Fx.pa_c pe_int pa_nil)) (pg_name (i := 2) sc__law_codes.nd rfl (Or.inl rfl)) (pss_cons (ps_set (i := 3) sc__law_codes.nd rfl (Or.inl rfl) (pe_m1 PySem.F.slot_str_find PySem.F.type_str_find mt_find (pe_ix Fx.ix_L (pv 1) (pv 2) (fun _ _ => rfl)) (pv 0)))
        (pss_one (ps_if (pt_cmpR op_ge (pv 3) pe_int (nomark _)) (pss_one (ps_ret (pe_ix Fx.ix_L (pe_lst (Fx.pa_c (pe_lst (Fx.pa_c (pv 3) pa_nil)) (Fx.pa_c (pe_lst (Fx.pa_c pe_int (Fx.pa_c (pv 3) pa_nil))) (Fx.pa_c (pe_lst (Fx.pa_c pe_int (Fx.pa_c (pv 3) pa_nil))) pa_nil)))) (pv 2) (fun _ _ => rfl)))) pss_nil))))
        (pss_one (ps_ret (pe_lst (Fx.pa_c pe_int (Fx.pa_c (pe_op op_fdiv (Fx.pe_cB Fx.ord_S T.b_ord (by decide +kernel) (Fx.pa_c (pv 0) pa_nil)) pe_int) (Fx.pa_c (pe_op op_mod (Fx.pe_cTy Fx.int_I T.b_int (by decide +kernel) (Fx.pa_c (Fx.pe_cB Fx.ord_S T.b_ord (by decide +kernel) (Fx.pa_c (pv 0) pa_nil)) pa_nil)) pe_int) pa_nil)))))))), ?_⟩
    obtain ⟨c, rfl, q⟩ := h
    refine seqI fun K1 k1 => ?_
    walk_at "rd"
    refine ⟨by decide, fun p np => k1 _ _ ?_⟩
    refine seqI fun K2 k2 => ?_
    refine ⟨3, rfl, by decide, by decide, for_range (lo := 0) (n := 3) (fun i σ H' => ∃ v2 v3, σ = [some (.str (S1 c)), some (.ref p), v2, v3] ∧ H' = upd H p (.lst [.str rowA, .str rowB, .str rowC]) ∧ (1 ≤ i → ¬ 0 ≤ Txt.find rowA (S1 c)) ∧ (2 ≤ i → ¬ 0 ≤ Txt.find rowB (S1 c)) ∧ (3 ≤ i → ¬ 0 ≤ Txt.find rowC (S1 c))) ⟨none, none, rfl, rfl, by omega, by omega, by omega⟩ ?_ ?_⟩
    · rintro i σ H' hi ⟨v2, v3, rfl, rfl, g1, g2, g3⟩
      have fin : ∀ (r : V) (p1 p2 p3 p4 : Addr) (x1 x2 x3 x4 : List V), (upd H p (.lst [.str rowA, .str rowB, .str rowC])) p1 = none → (upd (upd H p (.lst [.str rowA, .str rowB, .str rowC])) p1 (.lst x1)) p2 = none →
          (upd (upd (upd H p (.lst [.str rowA, .str rowB, .str rowC])) p1 (.lst x1)) p2 (.lst x2)) p3 = none → (upd (upd (upd (upd H p (.lst [.str rowA, .str rowB, .str rowC])) p1 (.lst x1)) p2 (.lst x2)) p3 (.lst x3)) p4 = none →
          ((r = .ref p1 ∧ x1 = (codeL c).map V.int) ∨ (r = .ref p2 ∧ x2 = (codeL c).map V.int) ∨ (r = .ref p3 ∧ x3 = (codeL c).map V.int)) → Q r (upd (upd (upd (upd (upd H p (.lst [.str rowA, .str rowB, .str rowC])) p1 (.lst x1)) p2 (.lst x2)) p3 (.lst x3)) p4 (.lst x4)) := by
        intro r p1 p2 p3 p4 x1 x2 x3 x4 n1 n2 n3 n4 hr
        have s0 : Same H (upd H p (.lst [.str rowA, .str rowB, .str rowC])) := same_new np
        have s1 := same_new (o := .lst x1) n1
        have s2 := same_new (o := .lst x2) n2
        have s3 := same_new (o := .lst x3) n3
        have s4 := same_new (o := .lst x4) n4
        rcases hr with ⟨rfl, e⟩ | ⟨rfl, e⟩ | ⟨rfl, e⟩
        · exact q p1 _ (s0.trans (s1.trans (s2.trans (s3.trans s4)))) (s0.free n1) (by rw [← e]; exact s4 _ _ (s3 _ _ (s2 _ _ upd_same)))
        · exact q p2 _ (s0.trans (s1.trans (s2.trans (s3.trans s4)))) (s0.free (s1.free n2)) (by rw [← e]; exact s4 _ _ (s3 _ _ upd_same))
        · exact q p3 _ (s0.trans (s1.trans (s2.trans (s3.trans s4)))) (s0.free (s1.free (s2.free n3))) (by rw [← e]; exact s4 _ _ upd_same)
      rcases (by omega : i = 0 ∨ i = 1 ∨ i = 2) with rfl | rfl | rfl
      · walk_at "rd"
        refine ⟨.str rowA, rfl, ?_⟩
        walk_at "rd"
        refine ite_i (fun h1 => ⟨by decide, fun p1 n1 => ⟨by decide, fun p2 n2 => ⟨by decide, fun p3 n3 => ⟨by decide, fun p4 n4 => ⟨_, rfl, fin _ _ _ _ _ _ _ _ _ n1 n2 n3 n4 (.inl ⟨rfl, ?_⟩)⟩⟩⟩⟩⟩) (fun h1 => ⟨fun _ => h1, by omega, by omega⟩)
        unfold codeL
        rw [if_pos h1]
        rfl
      · walk_at "rd"
        refine ⟨.str rowB, rfl, ?_⟩
        walk_at "rd"
        refine ite_i (fun h2 => ⟨by decide, fun p1 n1 => ⟨by decide, fun p2 n2 => ⟨by decide, fun p3 n3 => ⟨by decide, fun p4 n4 => ⟨_, rfl, fin _ _ _ _ _ _ _ _ _ n1 n2 n3 n4 (.inr (.inl ⟨rfl, ?_⟩))⟩⟩⟩⟩⟩) (fun h2 => ⟨fun _ => g1 (by omega), fun _ => h2, by omega⟩)
        unfold codeL
        rw [if_neg (g1 (by omega)), if_pos h2]
        rfl
      · walk_at "rd"
        refine ⟨.str rowC, rfl, ?_⟩
        walk_at "rd"
        refine ite_i (fun h3 => ⟨by decide, fun p1 n1 => ⟨by decide, fun p2 n2 => ⟨by decide, fun p3 n3 => ⟨by decide, fun p4 n4 => ⟨_, rfl, fin _ _ _ _ _ _ _ _ _ n1 n2 n3 n4 (.inr (.inr ⟨rfl, ?_⟩))⟩⟩⟩⟩⟩) (fun h3 => ⟨fun _ => g1 (by omega), fun _ => g2 (by omega), fun _ => h3⟩)
        unfold codeL
        rw [if_neg (g1 (by omega)), if_neg (g2 (by omega)), if_pos h3]
        rfl
    · rintro σ H' ⟨v2, v3, rfl, rfl, g1, g2, g3⟩
      refine k2 _ _ ?_
      walk_at "rd"
      refine ⟨rfl, ⟨by decide, by decide⟩, rfl, by decide, by decide, fun l nl => q l _ ((same_new np).trans (same_new nl)) ((same_new np (o := .lst [.str rowA, .str rowB, .str rowC])).free nl) ?_⟩
      rw [upd_same]
      unfold codeL
      rw [if_neg (g1 (by omega)), if_neg (g2 (by omega)), if_neg (g3 (by omega))]
      rfl
end
section
variable {P : Program} {w : World} {K : PySem.W.Frag} {mg : Str → Option Value} {base : Heap}
theorem ok__law_cut (S : Src K mg "_law_cut" s__law_cut) (T : Tx P K mg) (C__law_codes : Cal P w K mg base CX0 1 "_law_codes" ["_law_sign"] spLCodes)  : Cal P w K mg base CX0 2 "_law_cut" ["_law_version", "_law_word"] spLCut := by
  refine S.cal sc__law_cut bn__law_cut (fun vs H Q E h => ?_) (fun f cdv A outer s H vs Q E hr h => ?_)
  · first | (obtain ⟨rfl, _⟩ := h; rfl) | (obtain ⟨_, rfl, _⟩ := h; rfl) | (obtain ⟨_, _, rfl, _⟩ := h; rfl) | (obtain ⟨_, _, _, rfl, _⟩ := h; rfl) | (obtain ⟨_, _, _, _, rfl, _⟩ := h; rfl) | (obtain ⟨_, _, _, _, _, rfl, _⟩ := h; rfl) | (obtain ⟨_, _, _, _, _, _, rfl, _⟩ := h; rfl)
  · skip
    refine ⟨_, (pss_cons (ps_set (i := 2) sc__law_cut.nd rfl (Or.inl rfl) (pe_lst pa_nil))
        (pss_cons (ps_for PassesOwn.never rfl (pi_str (pv 1)) (pg_name (i := 3) sc__law_cut.nd rfl (Or.inl rfl)) (pss_one (ps_expr (pe_bm PySem.F.plainAttrs_list PySem.F.slot_list_extend PySem.F.type_list_extend mt_extend (pv 2) (Fx.pa_c (Fx.pe_cal C__law_codes (hr.mono (by decide)) pass0 (Fx.pa_c (pv 3) pa_nil)) pa_nil)))))
        (pss_cons (ps_expr (pe_bm PySem.F.plainAttrs_list PySem.F.slot_list_extend PySem.F.type_list_extend mt_extend (pv 2) (Fx.pa_c (pe_op op_rep (pe_lst (Fx.pa_c pe_int pa_nil)) pe_int) pa_nil)))
        (pss_one (ps_ret (pe_m1 PySem.F.slot_str_join PySem.F.type_str_join Fx.mt_jn pe_str (pe_lc (own := [("_law_one", 4)]) rfl sc__law_cut.nd (pi_list (pe_slice Fx.sl_L (pv 2) po_none (po_some (pe_op op_add (pe_op op_mul pe_int (pv 0)) pe_int)))) (blkOk_by (N := N__law_cut) (sc := defScope s__law_cut) (by decide +kernel)) (fun _ _ _ _ _ => (pg_name (i := 4) sc__law_cut.nd rfl (Or.inl rfl))) (fun _ _ _ _ _ => pts_nil) (fun _ _ _ _ _ => (pe_ix Fx.ix_S pe_str (pv 4) (fun _ _ => rfl)))))))))), ?_⟩
    obtain ⟨n, z, rfl, n1, n3, hz, hw, q⟩ := h
    refine seqI fun K1 k1 => ?_
    walk_at "rd"
    refine ⟨by decide, fun p np => k1 _ _ ?_⟩
    clear k1
    refine seqI fun K1 k1 => ?_
    refine ⟨.str z, rfl, z, rfl, for_S (z := z) (fun i σ H' => ∃ v, σ = [some (.int n), some (.str z), some (.ref p), v, none] ∧ H' p = some (.lst (mi (((z.cps.toList.take i).map codeL).flatten))) ∧ Same H H') ⟨none, rfl, upd_same, same_new np⟩ ?_ ?_⟩
    · rintro i c σ H' hc ⟨v, rfl, hp, sH⟩
      clear k1
      walk_at "rd"
      refine ⟨tyL hp, c, rfl, fun p1 H1 s1 n1 h1 => ⟨p1, rfl, _, s1 _ _ hp, _, h1, ?_, ?_, Same.put (sH.trans s1) np⟩⟩
      · have l1 := flat_len (z.cps.toList.take i)
        have l2 := codeL_len c
        rw [List.length_take] at l1
        have lz : z.cps.toList.length ≤ 1000 := by rw [Array.length_toList]; exact hz
        rw [mi_len, List.length_map]
        exact sz (by omega)
      · rw [List.take_add_one, hc]
        simp
    · rintro σ H1 ⟨v, rfl, hp, s1⟩
      refine k1 _ _ ?_
      clear k1
      have lcl : (clist z).length ≤ 3000 := by
        have := flat_len z.cps.toList
        have lz : z.cps.toList.length ≤ 1000 := by rw [Array.length_toList]; exact hz
        unfold clist
        omega
      rw [List.take_length] at hp
      have hp : H1 p = some (.lst (mi (clist z))) := hp
      refine seqI fun K1 k1 => ?_
      walk_at "rd"
      refine ⟨tyL hp, by decide, fun p1 n1 => ⟨by decide, by decide, (show 1 * 16 ≤ sizeLine by decide), fun p2 n2 => ?_⟩⟩
      have t1 := same_new (o := .lst [.int 15]) n1
      have t2 := same_new (o := .lst ((List.replicate (Int.toNat 16) [V.int 15]).flatten)) n2
      refine ⟨_, t2 _ _ (t1 _ _ hp), (by rw [mi_len]; exact sz (show (clist z).length + 16 ≤ 100000 by omega)), k1 _ _ ?_⟩
      clear k1
      have ee : mi (clist z) ++ (List.replicate (Int.toNat 16) [V.int 15]).flatten = mi (clist z ++ List.replicate 16 15) := by rw [mi_app]; rfl
      rw [ee]
      have s3 := Same.put (o := .lst (mi (clist z ++ List.replicate 16 15))) ((s1.trans t1).trans t2) np
      have hp3 : (upd (upd (upd H1 p1 (.lst [.int 15])) p2 (.lst ((List.replicate (Int.toNat 16) [V.int 15]).flatten))) p (.lst (mi (clist z ++ List.replicate 16 15)))) p = some (.lst (mi (clist z ++ List.replicate 16 15))) := upd_same
      generalize upd (upd (upd H1 p1 (.lst [.int 15])) p2 (.lst ((List.replicate (Int.toNat 16) [V.int 15]).flatten))) p (.lst (mi (clist z ++ List.replicate 16 15))) = H3 at s3 hp3
      obtain ⟨k, ek⟩ : ∃ k : Nat, 4 * n + 4 = (k : Int) := ⟨(4 * n + 4).toNat, by omega⟩
      unfold cutT at q
      rw [ek, Int.toNat_natCast] at q
      have hin : ∀ x ∈ (clist z ++ List.replicate 16 15).take k, 0 ≤ x ∧ x ≤ 15 := by
        intro x hx
        rcases List.mem_append.mp (List.mem_of_mem_take hx) with hx | hx
        · exact clist_ok hw x hx
        · rw [(List.mem_replicate.mp hx).2]
          omega
      refine ⟨⟨_, rfl⟩, .ref p, rfl, _, rfl, _, _, rfl, rfl, .inl ⟨by decide, by decide⟩, _, _, rfl, rfl, _, rfl, ?_⟩
      refine ⟨p, _, rfl, hp3, fun p4 n4 => ⟨p4, rfl, ⟨_, .inl (.inl upd_same)⟩, fun D nD => ?_⟩⟩
      rw [ek, cutV_hi, mi_take] at *
      have s4 := same_new (o := .lst (mi ((clist z ++ List.replicate 16 15).take k))) n4
      have hp2 : (upd H3 p4 (.lst (mi ((clist z ++ List.replicate 16 15).take k)))) p4 = some (.lst (mi ((clist z ++ List.replicate 16 15).take k))) := upd_same
      generalize upd H3 p4 (.lst (mi ((clist z ++ List.replicate 16 15).take k))) = H4 at s4 hp2 nD
      have ll : ((clist z ++ List.replicate 16 15).take k).length ≤ 4000 := by
        rw [List.length_take, List.length_append, List.length_replicate]
        omega
      clear hp3 n4
      generalize (clist z ++ List.replicate 16 15).take k = cl at *
      refine lc_list (K := K) (a := p4) (xs := mi cl) (fun i H5 => H5 = upd H4 D (.lst (((cl.take i).map fun c => S1 (hexc c)).map V.str))) rfl (fun i H5 _ e => ?_) ?_ ?_
      · rw [e]
        exact .inl (.inl (same_new nD _ _ hp2))
      · rintro i x H5 hx rfl
        obtain ⟨y, rfl, hy⟩ := mapI_some hx
        have hb := hin y (List.mem_of_getElem? hy)
        have hi := (List.getElem?_eq_some_iff.mp hy).1
        refine ⟨rfl, ?_⟩
        walk_at "rd"
        refine ⟨by decide, _, hex_get hb.1 hb.2, ?_, ?_⟩
        · rw [List.length_map, List.length_map, List.length_take]
          exact Nat.lt_of_lt_of_le (by omega : _ < 5000) (by decide)
        · rw [upd_upd, List.take_add_one, hy]
          simp
      · rintro H5 rfl
        rw [List.take_of_length_le (by rw [mi_len]; exact Nat.le_refl _)]
        refine ⟨_, D, cl.map fun c => S1 (hexc c), rfl, rfl, upd_same, ?_, q _ (s3.trans (s4.trans (same_new nD)))⟩
        rw [ones_sum]
        have e2 : (("" : Str)).length = 0 := rfl
        rw [e2]
        omega
end
section
variable {P : Program} {w : World} {K : PySem.W.Frag} {mg : Str → Option Value} {base : Heap}
theorem ok__law_typed (S : Src K mg "_law_typed" s__law_typed) (T : Tx P K mg) (C__law_pick : Cal P w K mg base CX0 1 "_law_pick" ["_law_bag_here", "_law_many"] spPick)  : Cal P w K mg base CX0 2 "_law_typed" ["_law_bag_here", "_law_pool"] spTyped := by
  refine S.cal sc__law_typed bn__law_typed (fun vs H Q E h => ?_) (fun f cdv A outer s H vs Q E hr h => ?_)
  · first | (obtain ⟨rfl, _⟩ := h; rfl) | (obtain ⟨_, rfl, _⟩ := h; rfl) | (obtain ⟨_, _, rfl, _⟩ := h; rfl) | (obtain ⟨_, _, _, rfl, _⟩ := h; rfl) | (obtain ⟨_, _, _, _, rfl, _⟩ := h; rfl) | (obtain ⟨_, _, _, _, _, rfl, _⟩ := h; rfl) | (obtain ⟨_, _, _, _, _, _, rfl, _⟩ := h; rfl)
  · skip
    refine ⟨_, (pss_cons (ps_if (pt_cmpR op_eq (Fx.pe_cal C__law_pick (hr.mono (by decide)) pass0 (Fx.pa_c (pv 0) (Fx.pa_c pe_int pa_nil))) pe_int (nomark _)) (pss_one (ps_ret pe_str)) pss_nil)
        (pss_cons (ps_set (i := 2) sc__law_typed.nd rfl (Or.inr rfl) pe_str)
        (pss_cons (ps_set (i := 3) sc__law_typed.nd rfl (Or.inl rfl) (Fx.pe_cal C__law_pick (hr.mono (by decide)) pass0 (Fx.pa_c (pv 0) (Fx.pa_c pe_int pa_nil))))
        (pss_cons (ps_set (i := 2) sc__law_typed.nd rfl (Or.inr rfl) (pe_slice sl_str (pe_op op_add_str (pv 2) (pv 2)) (po_some (pv 3)) (po_some (pe_op op_add (pe_op op_add (pv 3) pe_int) (Fx.pe_cal C__law_pick (hr.mono (by decide)) pass0 (Fx.pa_c (pv 0) (Fx.pa_c pe_int pa_nil)))))))
        (pss_cons (ps_set (i := 4) sc__law_typed.nd rfl (Or.inl rfl) (pe_op op_add pe_int (Fx.pe_cal C__law_pick (hr.mono (by decide)) pass0 (Fx.pa_c (pv 0) (Fx.pa_c (pe_ix Fx.ix_L (pe_lst (Fx.pa_c pe_int (Fx.pa_c pe_int pa_nil))) (Fx.pe_cal C__law_pick (hr.mono (by decide)) pass0 (Fx.pa_c (pv 0) (Fx.pa_c pe_int pa_nil))) (fun _ _ => rfl)) pa_nil)))))
        (pss_cons (ps_set (i := 5) sc__law_typed.nd rfl (Or.inl rfl) (pe_m1 PySem.F.slot_str_join PySem.F.type_str_join Fx.mt_jn pe_str (pe_lc (own := [("_law_step", 8)]) rfl sc__law_typed.nd (pi_range1 rfl T.b_range (Fx.pa_c (pv 4) pa_nil)) (blkOk_by (N := N__law_typed) (sc := defScope s__law_typed) (by decide +kernel)) (fun _ _ _ _ _ => (pg_name (i := 8) sc__law_typed.nd rfl (Or.inl rfl))) (fun _ _ _ _ _ => pts_nil) (fun _ _ _ _ _ => (pe_ix Fx.ix_S (pv 2) (Fx.pe_cal C__law_pick (hr.mono (by decide)) pass0 (Fx.pa_c (pv 0) (Fx.pa_c (Fx.pe_cB Fx.len_S T.b_len (by decide +kernel) (Fx.pa_c (pv 2) pa_nil)) pa_nil))) (fun _ _ => rfl))))))
        (pss_cons (ps_set (i := 6) sc__law_typed.nd rfl (Or.inl rfl) (Fx.pe_cal C__law_pick (hr.mono (by decide)) pass0 (Fx.pa_c (pv 0) (Fx.pa_c pe_int pa_nil))))
        (pss_cons (ps_if (pt_cmpR op_eq (pv 6) pe_int (nomark _)) (pss_one (ps_set (i := 5) sc__law_typed.nd rfl (Or.inl rfl) (pe_op op_add_str (pe_op Fx.op_mul_str (pe_ix Fx.ix_S pe_str (Fx.pe_cal C__law_pick (hr.mono (by decide)) pass0 (Fx.pa_c (pv 0) (Fx.pa_c pe_int pa_nil))) (fun _ _ => rfl)) (pe_ix Fx.ix_L (pe_lst (Fx.pa_c pe_int (Fx.pa_c pe_int (Fx.pa_c pe_int (Fx.pa_c pe_int (Fx.pa_c pe_int (Fx.pa_c pe_int pa_nil))))))) (Fx.pe_cal C__law_pick (hr.mono (by decide)) pass0 (Fx.pa_c (pv 0) (Fx.pa_c pe_int pa_nil))) (fun _ _ => rfl))) (pv 5)))) (pss_one (ps_if (PW.pt (pw_and (pt_cmpR op_gt (pv 6) pe_int (nomark _)) (pw_and1 (pt_truth (pv 1) (by intro _; rfl))))) (pss_cons (ps_set (i := 7) sc__law_typed.nd rfl (Or.inl rfl) (pe_ix Fx.ix_L (pv 1) (Fx.pe_cal C__law_pick (hr.mono (by decide)) pass0 (Fx.pa_c (pv 0) (Fx.pa_c (Fx.pe_cB Fx.len_L T.b_len (by decide +kernel) (Fx.pa_c (pv 1) pa_nil)) pa_nil))) (fun _ _ => rfl)))
        (pss_one (ps_if (pt_cmpR op_ne (pv 7) pe_str (nomark _)) (pss_one (ps_set (i := 5) sc__law_typed.nd rfl (Or.inl rfl) (pe_op op_add_str (pe_slice sl_str (pv 7) po_none (po_some (pe_op op_add pe_int (Fx.pe_cal C__law_pick (hr.mono (by decide)) pass0 (Fx.pa_c (pv 0) (Fx.pa_c (Fx.pe_cB Fx.len_S T.b_len (by decide +kernel) (Fx.pa_c (pv 7) pa_nil)) pa_nil)))))) (pv 5)))) pss_nil))) pss_nil)))
        (pss_one (ps_ret (pe_slice sl_str (pv 5) po_none (po_some pe_int)))))))))))), ?_⟩
    obtain ⟨b, p, ws, rfl, hB, hp, hl, hw, q⟩ := h
    refine seqI fun K1 k1 => ?_
    walk_at "rd"
    refine ⟨b, 12, rfl, hB, by decide, by decide, fun n H1 n0 n1 kp1 => ?_⟩
    walk_at "rd"
    refine ite_i (fun h0 => q "," H1 (by decide +kernel) (by decide) kp1) (fun h0 => k1 _ _ ?_)
    clear k1
    refine seqI fun K1 k1 => ?_
    walk_at "rd"
    refine k1 _ _ ?_
    clear k1
    refine seqI fun K1 k1 => ?_
    walk_at "rd"
    refine ⟨b, 38, rfl, kp1.bag, by decide, by decide, fun at_ H2 a0 a1 kp2 => k1 _ _ ?_⟩
    clear k1
    refine seqI fun K1 k1 => ?_
    walk_at "rd"
    refine ⟨by decide, b, 38, rfl, kp2.bag, by decide, by decide, fun m H3 m0 m1 kp3 => ⟨_, rfl, by decide, k1 _ _ ?_⟩⟩
    clear k1
    have kpA := (kp1.trans kp2).trans kp3
    clear kp1 kp2 kp3
    have wsS : WS (cutS (typS ++ typS) (some at_) (some (at_ + 1 + m))) := (typS_ws.app typS_ws).cut
    have lS : 1 ≤ (cutS (typS ++ typS) (some at_) (some (at_ + 1 + m))).length ∧ (cutS (typS ++ typS) (some at_) (some (at_ + 1 + m))).length ≤ 76 := by
      have e : (typS ++ typS).length = 76 := by rw [len_app]; rfl
      rw [cutS_len, sIx_nat' a0, sIx_nat' (by omega), e]
      omega
    have eS : cutS (Str.ofString "etaonisrhldcumfpgwybvkxjqz0123456789'-" ++ Str.ofString "etaonisrhldcumfpgwybvkxjqz0123456789'-") (some at_) (some (at_ + 1 + m)) = cutS (typS ++ typS) (some at_) (some (at_ + 1 + m)) := rfl
    rw [eS]
    clear eS
    generalize cutS (typS ++ typS) (some at_) (some (at_ + 1 + m)) = sg at wsS lS
    refine seqI fun K1 k1 => ?_
    walk_at "rd"
    refine ⟨by decide, fun p1 n1 => ?_⟩
    have s1 := same_new (o := .lst [.int 4, .int 20]) n1
    have kpB := kpA.then s1
    refine ⟨b, 2, rfl, kpB.bag, by decide, by decide, fun w0 H4 w1 w2 kp4 => ?_⟩
    obtain ⟨y, y0, y1, ey⟩ : ∃ y : Int, 0 < y ∧ y ≤ 20 ∧ atI [V.int 4, V.int 20] w0 = some (.int y) := by
      rcases (by omega : w0 = 0 ∨ w0 = 1) with rfl | rfl
      · exact ⟨4, by decide, by decide, rfl⟩
      · exact ⟨20, by decide, by decide, rfl⟩
    refine ⟨w0, rfl, _, kp4.lst kpB.bag upd_same, _, ey, ?_⟩
    refine ⟨b, y, rfl, kp4.bag, y0, by omega, fun x H5 x0 x1 kp5 => ⟨x, rfl, k1 _ _ ?_⟩⟩
    clear k1
    have kp := (kpB.trans kp4).trans kp5
    have hp5 := kp.lst hB hp
    clear kpA kpB kp4 kp5 s1 n1 ey
    refine seqI fun K1 k1 => ?_
    refine ⟨⟨_, rfl⟩, .int (1 + x), rfl, 1 + x, rfl, by omega, by omega, fun D nD => ?_⟩
    refine lc_range (lo := 0) (n := (1 + x).toNat) (fun i H6 => ∃ cs : List Nat, cs.length = i ∧ (∀ c ∈ cs, c ∈ wordSigns.cps.toList) ∧ H6 D = some (.lst ((cs.map S1).map V.str)) ∧ Kp b H5 H6) ⟨[], rfl, fun c h => by (cases h), upd_same, Kp.put kp.bag (Kp.refl kp.bag) nD⟩ ?_ ?_
    · rintro i H6 hi ⟨cs, hcs, hall, hD, kp6⟩
      refine ⟨rfl, ?_⟩
      walk_at "rd"
      refine ⟨sz (by omega), b, _, rfl, kp6.bag, by omega, by omega, fun r H7 r0 r1 kp7 => ?_⟩
      obtain ⟨c, hc, hm⟩ := atI_mem (xs := sg.cps.toList) r0 (by rw [Array.length_toList]; exact r1)
      walk_at "rd"
      refine ⟨sz (by omega), c, hc, _, kp7.lst kp6.bag hD, ?_, cs ++ [c], ?_, ?_, ?_, Kp.put kp.bag (kp6.trans kp7) nD⟩
      · rw [List.length_map, List.length_map]
        exact Nat.lt_of_lt_of_le (by omega : _ < 100) (by decide)
      · rw [List.length_append]
        show cs.length + 1 = _
        omega
      · intro x hx
        rcases List.mem_append.mp hx with hx | hx
        · exact hall x hx
        · rw [List.mem_singleton.mp hx]
          exact wsS c hm
      · rw [List.map_append, List.map_append]
        rfl
    rintro H6 ⟨cs, hcs, hall, hD, kp6⟩
    have jl : (Txt.join "" (cs.map S1)).cps.toList = cs := by
      rw [join0_list, List.map_map]
      clear hcs hall hD
      induction cs with
      | nil => rfl
      | cons c l ih =>
        rw [List.map_cons, List.flatten_cons, ih]
        rfl
    have js : ((cs.map S1).map (·.length)).sum = cs.length := by
      rw [List.map_map]
      clear hcs hall hD jl
      induction cs with
      | nil => rfl
      | cons c l ih =>
        rw [List.map_cons, List.sum_cons, ih]
        show 1 + l.length = l.length + 1
        omega
    refine ⟨_, D, cs.map S1, rfl, rfl, hD, ?_, k1 _ _ ?_⟩
    · rw [js]
      have e2 : (("" : Str)).length = 0 := rfl
      rw [e2]
      omega
    clear k1
    have wsW : WS (Txt.join "" (cs.map S1)) := fun c hc => hall c (by rw [jl] at hc; exact hc)
    have lW : (Txt.join "" (cs.map S1)).length = cs.length := by
      show (Txt.join "" (cs.map S1)).cps.size = _
      rw [← Array.length_toList, jl]
    generalize Txt.join "" (cs.map S1) = wd at wsW lW
    have kp7 := kp.trans kp6
    have hp7 := kp7.lst hB hp
    have l1 : 1 ≤ wd.length ∧ wd.length ≤ 20 := by omega
    clear jl js hcs hall hD kp6 lW hp5 kp nD
    refine seqI fun K1 k1 => ?_
    walk_at "rd"
    refine ⟨b, 6, rfl, kp7.bag, by decide, by decide, fun way H8 v0 v1 kp8 => k1 _ _ ?_⟩
    clear k1
    replace kp7 := kp7.trans kp8
    have hp8 := kp7.lst hB hp
    clear kp8 hp7
    refine seqI fun K1 k1 => ?_
    have fin : ∀ (u : Str) (w5 w7 : Option V) (H9 : Hp), WS u → 1 ≤ u.length → u.length ≤ 1000 → Kp b H H9 → K1 [some (.ref b), some (.ref p), some (.str sg), some (.int at_), some (.int (1 + x)), some (.str u), some (.int way), w7, none] H9 := by
      intro u w5 w7 H9 hu u1 u2 kp9
      refine k1 _ _ ?_
      walk_at "rd"
      have cl : (cutS u none (some 20)).length = min 20 u.length := by
        rw [cutS_len, HT.sIx_none, sIx_nat' (by decide : (0 : Int) ≤ 20)]
        show min (min 20 u.length - 0) (u.length - 0) = _
        omega
      exact ⟨sz (by omega), q _ H9 (isW_of hu.cut (by omega) (by omega)) (by omega) kp9⟩
    clear k1
    refine ifI fun A B ka kb => ?_
    walk_at "rd"
    refine ite_i (fun h1 => ka _ ?_) (fun h1 => kb _ ?_)
    · clear ka kb
      walk_at "rd"
      refine ⟨b, 2, rfl, kp7.bag, by decide, by decide, fun e H9 e0 e1 kp9 => ⟨e, rfl, by decide, ?_⟩⟩
      obtain ⟨c, hc, hm⟩ := atI_mem (xs := (("et" : Str)).cps.toList) e0 (show e < 2 from e1)
      refine ⟨c, hc, by decide, fun p1 n1 => ?_⟩
      have s1 := same_new (o := .lst [.int 7, .int 8, .int 11, .int 12, .int 15, .int 16]) n1
      have kpC := (kp7.trans kp9).then s1
      refine ⟨b, 6, rfl, kpC.bag, by decide, by decide, fun g H10 g0 g1 kp10 => ?_⟩
      obtain ⟨y, y0, y1, ey⟩ : ∃ y : Int, 0 ≤ y ∧ y ≤ 16 ∧ atI [V.int 7, V.int 8, V.int 11, V.int 12, V.int 15, V.int 16] g = some (.int y) := by
        rcases (by omega : g = 0 ∨ g = 1 ∨ g = 2 ∨ g = 3 ∨ g = 4 ∨ g = 5) with rfl | rfl | rfl | rfl | rfl | rfl
        · exact ⟨7, by decide, by decide, rfl⟩
        · exact ⟨8, by decide, by decide, rfl⟩
        · exact ⟨11, by decide, by decide, rfl⟩
        · exact ⟨12, by decide, by decide, rfl⟩
        · exact ⟨15, by decide, by decide, rfl⟩
        · exact ⟨16, by decide, by decide, rfl⟩
      obtain ⟨ml, ma⟩ := mul_one c y y0
      have ml : (Txt.mul ({ cps := #[c] } : Str) y).length = y.toNat := ml
      have hcw : c ∈ wordSigns.cps.toList := by
        have key : ∀ c ∈ (("et" : Str)).cps.toList, c ∈ wordSigns.cps.toList := by decide +kernel
        exact key c hm
      refine ⟨g, rfl, _, kp10.lst kpC.bag upd_same, _, ey, y, rfl, y0, by omega, (show 1 * y.toNat ≤ 1000000 by omega), sz (by omega), fin _ none none H10 ?_ ?_ ?_ (kpC.trans kp10)⟩
      · exact WS.app (fun d hd => by rw [ma d hd]; exact hcw) wsW
      · rw [len_app]
        omega
      · rw [len_app]
        omega
    clear ka kb A B
    refine ifI fun A B ka kb => ?_
    have no : B H8 := by
      refine kb _ ?_
      walk_at "rd"
      exact fin wd none none H8 wsW l1.1 (by omega) kp7
    walk_at "rd"
    refine ite_i (fun h2 => ?_) (fun _ => no)
    refine ⟨_, .inl ⟨_, .inl (.inl hp8), rfl⟩, ite_i (fun h3 => ka _ ?_) (fun _ => no)⟩
    have hne : 0 < ws.length := by
      cases ws with
      | nil => exact absurd h3 (by decide)
      | cons a l => exact Nat.succ_pos _
    clear ka kb no
    refine seqI fun K2 k2 => ?_
    walk_at "rd"
    refine ⟨_, hp8, ?_⟩
    rw [List.length_map]
    refine ⟨b, _, rfl, kp7.bag, by omega, by omega, fun g H9 g0 g1 kp9 => ⟨g, rfl, _, kp9.lst kp7.bag hp8, ?_⟩⟩
    obtain ⟨v, hv, hm⟩ := atI_mem (xs := ws.map V.str) g0 (by rw [List.length_map]; exact g1)
    obtain ⟨z, hz, rfl⟩ := List.mem_map.mp hm
    obtain ⟨w1z, w2z⟩ := hw z hz
    refine ⟨_, hv, k2 _ _ ?_⟩
    clear k2
    have kpD := kp7.trans kp9
    refine ifI fun A B ka kb => ?_
    walk_at "rd"
    refine ite_i (fun h4 => kb _ ?_) (fun h4 => ka _ ?_)
    · walk_at "rd"
      exact fin wd none _ H9 wsW l1.1 (by omega) kpD
    clear ka kb
    obtain ⟨wz, lz⟩ := isW_ws w1z h4
    walk_at "rd"
    refine ⟨sz (by omega), b, _, rfl, kpD.bag, by omega, by omega, fun t H10 t0 t1 kp10 => ⟨t, rfl, sz (by omega), ?_⟩⟩
    have cl := cut_hi z (1 + t) (by omega)
    refine ⟨sz (by omega), fin _ none _ H10 (wz.cut.app wsW) ?_ ?_ (kpD.trans kp10)⟩
    · rw [len_app]
      omega
    · rw [len_app]
      omega
end
section
variable {P : Program} {w : World} {K : PySem.W.Frag} {mg : Str → Option Value} {base : Heap}
theorem ok__law_odd (S : Src K mg "_law_odd" s__law_odd) (T : Tx P K mg) (C__law_pick : Cal P w K mg base CX0 1 "_law_pick" ["_law_bag_here", "_law_many"] spPick)  : Cal P w K mg base CX0 2 "_law_odd" ["_law_bag_here"] (spOdd K) := by
  refine S.cal sc__law_odd bn__law_odd (fun vs H Q E h => ?_) (fun f cdv A outer s H vs Q E hr h => ?_)
  · first | (obtain ⟨rfl, _⟩ := h; rfl) | (obtain ⟨_, rfl, _⟩ := h; rfl) | (obtain ⟨_, _, rfl, _⟩ := h; rfl) | (obtain ⟨_, _, _, rfl, _⟩ := h; rfl) | (obtain ⟨_, _, _, _, rfl, _⟩ := h; rfl) | (obtain ⟨_, _, _, _, _, rfl, _⟩ := h; rfl) | (obtain ⟨_, _, _, _, _, _, rfl, _⟩ := h; rfl)
  · skip
    refine ⟨_, (pss_cons (ps_set (i := 1) sc__law_odd.nd rfl (Or.inl rfl) (pe_lst (Fx.pa_c pe_str (Fx.pa_c (pe_op Fx.op_mul_str pe_str pe_int) (Fx.pa_c (pe_op Fx.op_mul_str pe_str pe_int) (Fx.pa_c pe_str (Fx.pa_c pe_str (Fx.pa_c pe_str (Fx.pa_c pe_str (Fx.pa_c pe_str (Fx.pa_c pe_str (Fx.pa_c pe_str (Fx.pa_c pe_str (Fx.pa_c pe_str (Fx.pa_c pe_str (Fx.pa_c pe_str (Fx.pa_c pe_str (Fx.pa_c pe_str pa_nil))))))))))))))))))
        (pss_cons (ps_set (i := 1) sc__law_odd.nd rfl (Or.inl rfl) (pe_op op_cat (pv 1) (pe_lst (Fx.pa_c pe_int (Fx.pa_c pe_non (Fx.pa_c pe_bl (Fx.pa_c (pe_lst (Fx.pa_c pe_str pa_nil)) (Fx.pa_c (pe_tup (Fx.pa_c pe_str (Fx.pa_c pe_str pa_nil))) (Fx.pa_c (pe_un un_neg pe_int) pa_nil)))))))))
        (pss_one (ps_ret (pe_ix Fx.ix_L (pv 1) (Fx.pe_cal C__law_pick (hr.mono (by decide)) pass0 (Fx.pa_c (pv 0) (Fx.pa_c pe_int pa_nil))) (fun _ _ => rfl)))))), ?_⟩
    obtain ⟨b, rfl, hB, q⟩ := h
    refine seqI fun K1 k1 => ?_
    walk_at "rd"
    refine ⟨by decide, by decide, by decide, by decide, by decide, by decide, by decide, fun p1 n1 => k1 _ _ ?_⟩
    clear k1
    have s1 := same_new (o := .lst (oddS.map V.str)) n1
    have h1 : (upd H p1 (.lst (oddS.map V.str))) p1 = some (.lst (oddS.map V.str)) := upd_same
    have e1 : (upd H p1 (.lst (oddS.map V.str))) = _ := rfl
    show tSeq _ _ _ _ (upd H p1 (.lst (oddS.map V.str)))
    generalize upd H p1 (.lst (oddS.map V.str)) = H1 at s1 h1
    refine seqI fun K1 k1 => ?_
    walk_at "rd"
    refine ⟨by decide, fun p2 n2 => ⟨by decide, fun p3 n3 => ⟨by decide, fun p4 n4 => ?_⟩⟩⟩
    have s2 := same_new (o := .lst [.str "a"]) n2
    have s3 := same_new (o := .tup [.str "a", .str "b"]) n3
    have s4 := same_new (o := .lst [V.int 5, V.non, V.bl true, V.ref p2, V.ref p3, V.int (-1)]) n4
    have g2 := s4 _ _ (s3 _ _ (upd_same (H := H1) (a := p2) (o := .lst [.str "a"])))
    have g3 := s4 _ _ (upd_same (H := upd H1 p2 (.lst [.str "a"])) (a := p3) (o := .tup [.str "a", .str "b"]))
    have sA := ((s1.trans s2).trans s3).trans s4
    have h4 := s4 _ _ (s3 _ _ (s2 _ _ h1))
    generalize upd (upd (upd H1 p2 (.lst [.str "a"])) p3 (.tup [.str "a", .str "b"])) p4 (.lst [V.int 5, V.non, V.bl true, V.ref p2, V.ref p3, V.int (-1)]) = H4 at s4 g2 g3 sA h4
    refine ⟨_, h4, (by decide), fun p5 n5 => k1 _ _ ?_⟩
    clear k1
    have s5 := same_new (o := .lst (oddS.map V.str ++ [V.int 5, V.non, V.bl true, V.ref p2, V.ref p3, V.int (-1)])) n5
    have kp := Kp.same hB (sA.trans s5)
    walk_at "rd"
    refine ⟨b, 22, rfl, kp.bag, by decide, by decide, fun g H5 g0 g1 kp5 => ⟨g, rfl, _, kp5.lst kp.bag upd_same, ?_⟩⟩
    obtain ⟨v, hv, hm⟩ := atI_mem (xs := oddS.map V.str ++ [V.int 5, V.non, V.bl true, V.ref p2, V.ref p3, V.int (-1)]) g0 (show g < 22 from g1)
    have f2 : H5 p2 = some (.lst [.str "a"]) := kp5.lst kp.bag (s5 _ _ g2)
    have f3 : H5 p3 = some (.tup [.str "a", .str "b"]) := kp5.tup kp.bag (s5 _ _ g3)
    refine ⟨v, hv, ?_⟩
    have K5 := kp.trans kp5
    rcases List.mem_append.mp hm with hm | hm
    · obtain ⟨z, hz, rfl⟩ := List.mem_map.mp hm
      have := List.all_eq_true.mp oddS_ok z hz
      simp only [Bool.and_eq_true, decide_eq_true_eq, Bool.not_eq_true'] at this
      exact q _ (.str z) H5 K5 (.inl ⟨z, rfl, this.1.1.2, this.1.1.1⟩) (shw_str this.1.2 this.2)
    · simp only [List.mem_cons, List.not_mem_nil, or_false] at hm
      rcases hm with rfl | rfl | rfl | rfl | rfl | rfl
      · exact q _ (.int 5) H5 K5 (.inr ⟨_, tyv_int, kb_int_str⟩) ⟨.int 5, by decide, rfl, by decide, by decide +kernel, by decide +kernel⟩
      · exact q _ .none H5 K5 (.inr ⟨_, tyv_non, kb_none_str⟩) ⟨.non, by decide, rfl, by decide, by decide +kernel, by decide +kernel⟩
      · exact q _ (.bool true) H5 K5 (.inr ⟨_, tyv_bl, kb_bool_str⟩) ⟨.bl true, by decide, rfl, by decide, by decide +kernel, by decide +kernel⟩
      · exact q _ (.list [.str "a"]) H5 K5 (.inr ⟨_, tyv_lst f2, kb_list_str⟩) ⟨.lst (.inl (.inl f2)) (.cons (.str _) .nil), by decide, rfl, by decide, by decide +kernel, by decide +kernel⟩
      · exact q _ (.tuple [.str "a", .str "b"]) H5 K5 (.inr ⟨_, tyv_tup f3, kb_tuple_str⟩) ⟨.tup (.inl (.inl f3)) (.cons (.str _) (.cons (.str _) .nil)), by decide, rfl, by decide, by decide +kernel, by decide +kernel⟩
      · exact q _ (.int (-1)) H5 K5 (.inr ⟨_, tyv_int, kb_int_str⟩) ⟨.int (-1), by decide, rfl, by decide, by decide +kernel, by decide +kernel⟩
end
section
variable {P : Program} {w : World} {K : PySem.W.Frag} {mg : Str → Option Value} {base : Heap}
theorem ok__law_cut_told (S : Src K mg "_law_cut_told" s__law_cut_told) (T : Tx P K mg) (C_cut_form : Cal P w K mg base (L2.CX P w) 5 "cut_form" ["version", "word"] (spCutForm K))  : CalG P w K mg base CX0 6 "_law_cut_told" ["_law_number", "_law_word"] (spTold K) := by
  refine S.calG sc__law_cut_told bn__law_cut_told (fun vs H Q E h => ?_) (fun f cdv A outer s H vs Q E hG hr h => ?_)
  · first | (obtain ⟨rfl, _⟩ := h; rfl) | (obtain ⟨_, rfl, _⟩ := h; rfl) | (obtain ⟨_, _, rfl, _⟩ := h; rfl) | (obtain ⟨_, _, _, rfl, _⟩ := h; rfl) | (obtain ⟨_, _, _, _, rfl, _⟩ := h; rfl) | (obtain ⟨_, _, _, _, _, rfl, _⟩ := h; rfl) | (obtain ⟨_, _, _, _, _, _, rfl, _⟩ := h; rfl)
  · skip
    refine ⟨_, (pss_cons (ps_try_as (i := 3) rfl rfl sc__law_cut_told.nd rfl rfl ⟨rfl, by decide, Or.inl T.g_FableError⟩ takes0 (fun W pn xe tk _ => (pss_one (ps_set (i := 2) sc__law_cut_told.nd rfl (Or.inl rfl) (Fx.pe_calS C_cut_form (hr.mono (by decide)) tk (Fx.pa_c (pv 0) (Fx.pa_c (pv 1) pa_nil)))))) (fun a oe cls d pn hz hf => (pss_cons (ps_if (PW.pt (pw_or (pt_not (pt_val (Fx.pe_cB (call_isY hz hf) T.b_isinstance (by decide +kernel) (Fx.pa_c (pv 3) (Fx.pa_c (pe_bltn (v := .ty "ValueError") (by rfl) T.b_ValueError (by decide +kernel) rfl) pa_nil))))) (pw_or1 (pt_val (Fx.pe_cB (call_isY hz hf) T.b_isinstance (by decide +kernel) (Fx.pa_c (pv 3) (Fx.pa_c (pe_glob (v := .ref (He.ga K "BadText")) rfl T.g_BadText rfl) pa_nil))))))) (pss_one (ps_ret (pe_lst (Fx.pa_c pe_str pa_nil)))) pss_nil)
        (pss_cons (ps_if (PW.pt (pw_and (pt_val (Fx.pe_cB (call_isY hz hf) T.b_isinstance (by decide +kernel) (Fx.pa_c (pv 3) (Fx.pa_c (pe_glob (v := .ref (He.ga K "BadVersion")) rfl T.g_BadVersion rfl) pa_nil)))) (pw_and1 (pt_not (pt_val (Fx.pe_cB (call_isY hz hf) T.b_isinstance (by decide +kernel) (Fx.pa_c (pv 3) (Fx.pa_c (pe_glob (v := .ref (He.ga K "BadWord")) rfl T.g_BadWord rfl) pa_nil)))))))) (pss_one (ps_ret (pe_lst (Fx.pa_c pe_str (Fx.pa_c (Fx.pe_cB (Fx.call_reprK (K := K) rfl hG hr.units) T.b_repr (by decide +kernel) (Fx.pa_c (pe_xf (XC.xfc T.x_BadVersion) T.x_BadVersion.noF hz hf (pv 3)) pa_nil)) pa_nil))))) pss_nil)
        (pss_cons (ps_if (PW.pt (pw_and (pt_val (Fx.pe_cB (call_isY hz hf) T.b_isinstance (by decide +kernel) (Fx.pa_c (pv 3) (Fx.pa_c (pe_glob (v := .ref (He.ga K "BadWord")) rfl T.g_BadWord rfl) pa_nil)))) (pw_and1 (pt_not (pt_val (Fx.pe_cB (call_isY hz hf) T.b_isinstance (by decide +kernel) (Fx.pa_c (pv 3) (Fx.pa_c (pe_glob (v := .ref (He.ga K "BadVersion")) rfl T.g_BadVersion rfl) pa_nil)))))))) (pss_one (ps_ret (pe_lst (Fx.pa_c pe_str (Fx.pa_c (Fx.pe_cB (Fx.call_reprK (K := K) rfl hG hr.units) T.b_repr (by decide +kernel) (Fx.pa_c (pe_xf (XC.xfc T.x_BadWord) T.x_BadWord.noF hz hf (pv 3)) pa_nil)) pa_nil))))) pss_nil)
        (pss_one (ps_ret (pe_lst (Fx.pa_c pe_str pa_nil)))))))))
        (pss_one (ps_ret (pe_lst (Fx.pa_c pe_str (Fx.pa_c (pv 2) pa_nil)))))), ?_⟩
    obtain ⟨v, w, rfl, h⟩ := h
    refine seqI fun K1 k1 => ?_
    rcases h with ⟨d, hb, hd, q⟩ | ⟨n, d, hg, hw, hd, q⟩ | ⟨n, z, hg, hw, q⟩
    · refine ⟨v, rfl, w, rfl, v, w, rfl, .inl ⟨hb, fun dd H' sH nd ed => ?_⟩⟩
      clear k1
      refine ⟨true, T.m_BadVersion, fun _ a0 na => ?_, fun z => Bool.noConfusion z⟩
      have efs : ∃ fs, H' dd = some (.xd fs) := ⟨_, ed⟩
      walk_at "rd"
      simp only [rIsY, tXf, rRepr]
      walk_at "rd"
      simp only [Value.ref.injEq, exists_eq_left', clsVal, Option.some.injEq, T.e_BadVersion, T.k_BadVersion_VE, T.k_BadVersion_BadText, T.k_BadVersion_BadVersion, T.k_BadVersion_BadWord, true_and, Bool.not_true, Bool.false_eq_true, if_false, ed, HO.xd.injEq, exists_eq_left, exists_eq', List.lookup, beq_self_eq_true]
      have h2 := hd.same sH
      refine ite_i (fun _ => ite_i (fun _ => ⟨d, h2.dp, h2.sh, h2.nd, h2.dep, h2.len, by decide, fun p np => q p _ (sH.trans (same_new np)) upd_same⟩) (fun h => absurd rfl h)) (fun h => absurd trivial h)
    · refine ⟨v, rfl, w, rfl, v, w, rfl, .inr (.inl ⟨n, hg, hw, fun dd H' sH nd ed => ?_⟩)⟩
      clear k1
      refine ⟨true, T.m_BadWord, fun _ a0 na => ?_, fun z => Bool.noConfusion z⟩
      have efs : ∃ fs, H' dd = some (.xd fs) := ⟨_, ed⟩
      walk_at "rd"
      simp only [rIsY, tXf, rRepr]
      walk_at "rd"
      simp only [Value.ref.injEq, exists_eq_left', clsVal, Option.some.injEq, T.e_BadWord, T.k_BadWord_VE, T.k_BadWord_BadText, T.k_BadWord_BadVersion, T.k_BadWord_BadWord, true_and, Bool.not_true, Bool.false_eq_true, if_false, ed, HO.xd.injEq, exists_eq_left, exists_eq', List.lookup, beq_self_eq_true]
      have h2 := hd.same sH
      first
      | exact ite_i (fun _ => ite_i (fun _ => ⟨d, h2.dp, h2.sh, h2.nd, h2.dep, h2.len, by decide, fun p np => q p _ (sH.trans (same_new np)) upd_same⟩) (fun h => absurd rfl h)) (fun h => absurd trivial h)
    · refine ⟨v, rfl, w, rfl, v, w, rfl, .inr (.inr ⟨n, z, hg, hw, fun H1 s1 => k1 _ _ ?_⟩)⟩
      walk_at "rd"
      exact ⟨by decide, fun p np => q p _ (s1.trans (same_new np)) upd_same⟩
end
section
variable {P : Program} {w : World} {K : PySem.W.Frag} {mg : Str → Option Value} {base : Heap}
theorem ok__law_compared (S : Src K mg "_law_compared" s__law_compared) (T : Tx P K mg) (C_alike : Cal P w K mg base (L2.CX P w) 6 "alike" ["version", "first", "second"] (spAlike K))  : CalG P w K mg base CX0 7 "_law_compared" ["_law_number", "_law_first", "_law_second"] (spComp K) := by
  refine S.calG sc__law_compared bn__law_compared (fun vs H Q E h => ?_) (fun f cdv A outer s H vs Q E hG hr h => ?_)
  · first | (obtain ⟨rfl, _⟩ := h; rfl) | (obtain ⟨_, rfl, _⟩ := h; rfl) | (obtain ⟨_, _, rfl, _⟩ := h; rfl) | (obtain ⟨_, _, _, rfl, _⟩ := h; rfl) | (obtain ⟨_, _, _, _, rfl, _⟩ := h; rfl) | (obtain ⟨_, _, _, _, _, rfl, _⟩ := h; rfl) | (obtain ⟨_, _, _, _, _, _, rfl, _⟩ := h; rfl)
  · skip
    refine ⟨_, (pss_cons (ps_try_as (i := 4) rfl rfl sc__law_compared.nd rfl rfl ⟨rfl, by decide, Or.inl T.g_FableError⟩ takes0 (fun W pn xe tk _ => (pss_one (ps_set (i := 3) sc__law_compared.nd rfl (Or.inl rfl) (Fx.pe_calS C_alike (hr.mono (by decide)) tk (Fx.pa_c (pv 0) (Fx.pa_c (pv 1) (Fx.pa_c (pv 2) pa_nil))))))) (fun a oe cls d pn hz hf => (pss_cons (ps_if (PW.pt (pw_or (pt_not (pt_val (Fx.pe_cB (call_isY hz hf) T.b_isinstance (by decide +kernel) (Fx.pa_c (pv 4) (Fx.pa_c (pe_bltn (v := .ty "ValueError") (by rfl) T.b_ValueError (by decide +kernel) rfl) pa_nil))))) (pw_or1 (pt_val (Fx.pe_cB (call_isY hz hf) T.b_isinstance (by decide +kernel) (Fx.pa_c (pv 4) (Fx.pa_c (pe_glob (v := .ref (He.ga K "BadText")) rfl T.g_BadText rfl) pa_nil))))))) (pss_one (ps_ret (pe_lst (Fx.pa_c pe_str pa_nil)))) pss_nil)
        (pss_cons (ps_if (PW.pt (pw_and (pt_val (Fx.pe_cB (call_isY hz hf) T.b_isinstance (by decide +kernel) (Fx.pa_c (pv 4) (Fx.pa_c (pe_glob (v := .ref (He.ga K "BadVersion")) rfl T.g_BadVersion rfl) pa_nil)))) (pw_and1 (pt_not (pt_val (Fx.pe_cB (call_isY hz hf) T.b_isinstance (by decide +kernel) (Fx.pa_c (pv 4) (Fx.pa_c (pe_glob (v := .ref (He.ga K "BadWord")) rfl T.g_BadWord rfl) pa_nil)))))))) (pss_one (ps_ret (pe_lst (Fx.pa_c pe_str (Fx.pa_c (Fx.pe_cB (Fx.call_reprK (K := K) rfl hG hr.units) T.b_repr (by decide +kernel) (Fx.pa_c (pe_xf (XC.xfc T.x_BadVersion) T.x_BadVersion.noF hz hf (pv 4)) pa_nil)) pa_nil))))) pss_nil)
        (pss_cons (ps_if (PW.pt (pw_and (pt_val (Fx.pe_cB (call_isY hz hf) T.b_isinstance (by decide +kernel) (Fx.pa_c (pv 4) (Fx.pa_c (pe_glob (v := .ref (He.ga K "BadWord")) rfl T.g_BadWord rfl) pa_nil)))) (pw_and1 (pt_not (pt_val (Fx.pe_cB (call_isY hz hf) T.b_isinstance (by decide +kernel) (Fx.pa_c (pv 4) (Fx.pa_c (pe_glob (v := .ref (He.ga K "BadVersion")) rfl T.g_BadVersion rfl) pa_nil)))))))) (pss_one (ps_ret (pe_lst (Fx.pa_c pe_str (Fx.pa_c (Fx.pe_cB (Fx.call_reprK (K := K) rfl hG hr.units) T.b_repr (by decide +kernel) (Fx.pa_c (pe_xf (XC.xfc T.x_BadWord) T.x_BadWord.noF hz hf (pv 4)) pa_nil)) pa_nil))))) pss_nil)
        (pss_one (ps_ret (pe_lst (Fx.pa_c pe_str pa_nil)))))))))
        (pss_cons (ps_if (pt_cmpR op_isBo (pv 3) pe_bl (nomark _)) (pss_one (ps_ret (pe_lst (Fx.pa_c pe_str pa_nil)))) pss_nil)
        (pss_cons (ps_if (pt_cmpR op_isBo (pv 3) pe_bl (nomark _)) (pss_one (ps_ret (pe_lst (Fx.pa_c pe_str pa_nil)))) pss_nil)
        (pss_one (ps_ret (pe_lst (Fx.pa_c pe_str pa_nil))))))), ?_⟩
    obtain ⟨v, a, b, rfl, h⟩ := h
    refine seqI fun K1 k1 => ?_
    rcases h with ⟨d, hb, hd, q⟩ | ⟨n, d, hg, hw, hd, q⟩ | ⟨n, z, d, hg, hz, hw, hd, q⟩ | ⟨n, z, y, hg, hz, hy, q⟩
    · refine ⟨v, rfl, a, rfl, b, rfl, v, a, b, rfl, .inl ⟨hb, fun dd H' sH nd ed => ?_⟩⟩
      clear k1
      refine ⟨true, T.m_BadVersion, fun _ a0 na => ?_, fun z => Bool.noConfusion z⟩
      have efs : ∃ fs, H' dd = some (.xd fs) := ⟨_, ed⟩
      walk_at "rd"
      simp only [rIsY, tXf, rRepr]
      walk_at "rd"
      simp only [Value.ref.injEq, exists_eq_left', clsVal, Option.some.injEq, T.e_BadVersion, T.k_BadVersion_VE, T.k_BadVersion_BadText, T.k_BadVersion_BadVersion, T.k_BadVersion_BadWord, true_and, Bool.not_true, Bool.false_eq_true, if_false, ed, HO.xd.injEq, exists_eq_left, exists_eq', List.lookup, beq_self_eq_true]
      have h2 := hd.same sH
      exact ite_i (fun _ => ite_i (fun _ => ⟨d, h2.dp, h2.sh, h2.nd, h2.dep, h2.len, by decide, fun p np => q p _ (sH.trans (same_new np)) upd_same⟩) (fun h => absurd rfl h)) (fun h => absurd trivial h)
    · refine ⟨v, rfl, a, rfl, b, rfl, v, a, b, rfl, .inr (.inl ⟨n, hg, hw, fun dd H' sH nd ed => ?_⟩)⟩
      clear k1
      refine ⟨true, T.m_BadWord, fun _ a0 na => ?_, fun z => Bool.noConfusion z⟩
      have efs : ∃ fs, H' dd = some (.xd fs) := ⟨_, ed⟩
      walk_at "rd"
      simp only [rIsY, tXf, rRepr]
      walk_at "rd"
      simp only [Value.ref.injEq, exists_eq_left', clsVal, Option.some.injEq, T.e_BadWord, T.k_BadWord_VE, T.k_BadWord_BadText, T.k_BadWord_BadVersion, T.k_BadWord_BadWord, true_and, Bool.not_true, Bool.false_eq_true, if_false, ed, HO.xd.injEq, exists_eq_left, exists_eq', List.lookup, beq_self_eq_true]
      have h2 := hd.same sH
      exact ite_i (fun _ => ite_i (fun _ => ⟨d, h2.dp, h2.sh, h2.nd, h2.dep, h2.len, by decide, fun p np => q p _ (sH.trans (same_new np)) upd_same⟩) (fun h => absurd rfl h)) (fun h => absurd trivial h)
    · refine ⟨v, rfl, a, rfl, b, rfl, v, a, b, rfl, .inr (.inr (.inl ⟨n, z, hg, hz, hw, fun dd H' sH nd ed => ?_⟩))⟩
      clear k1
      refine ⟨true, T.m_BadWord, fun _ a0 na => ?_, fun z => Bool.noConfusion z⟩
      have efs : ∃ fs, H' dd = some (.xd fs) := ⟨_, ed⟩
      walk_at "rd"
      simp only [rIsY, tXf, rRepr]
      walk_at "rd"
      simp only [Value.ref.injEq, exists_eq_left', clsVal, Option.some.injEq, T.e_BadWord, T.k_BadWord_VE, T.k_BadWord_BadText, T.k_BadWord_BadVersion, T.k_BadWord_BadWord, true_and, Bool.not_true, Bool.false_eq_true, if_false, ed, HO.xd.injEq, exists_eq_left, exists_eq', List.lookup, beq_self_eq_true]
      have h2 := hd.same sH
      exact ite_i (fun _ => ite_i (fun _ => ⟨d, h2.dp, h2.sh, h2.nd, h2.dep, h2.len, by decide, fun p np => q p _ (sH.trans (same_new np)) upd_same⟩) (fun h => absurd rfl h)) (fun h => absurd trivial h)
    · refine ⟨v, rfl, a, rfl, b, rfl, v, a, b, rfl, .inr (.inr (.inr ⟨n, z, y, hg, hz, hy, fun H1 s1 => k1 _ _ ?_⟩))⟩
      walk_at "rd"
      unfold alikeV at q
      refine ite_i (fun e => ?_) (fun e => ite_i (fun _ => ?_) (fun h => absurd (decide_eq_false e) h))
      · rw [if_pos e] at q
        exact ⟨by decide, fun p np => q p _ (s1.trans (same_new np)) upd_same⟩
      · rw [if_neg e] at q
        exact ⟨by decide, fun p np => q p _ (s1.trans (same_new np)) upd_same⟩
end
section
variable {P : Program} {w : World} {K : PySem.W.Frag} {mg : Str → Option Value} {base : Heap}
theorem ok__law_two (S : Src K mg "_law_two" s__law_two) (T : Tx P K mg) (C__law_cut : Cal P w K mg base CX0 2 "_law_cut" ["_law_version", "_law_word"] spLCut) (C__law_compared : CalG P w K mg base CX0 7 "_law_compared" ["_law_number", "_law_first", "_law_second"] (spComp K))  : CalG P w K mg base CX0 8 "_law_two" ["_law_number", "_law_first", "_law_second"] spTwo := by
  refine S.calG sc__law_two bn__law_two (fun vs H Q E h => ?_) (fun f cdv A outer s H vs Q E hG hr h => ?_)
  · first | (obtain ⟨rfl, _⟩ := h; rfl) | (obtain ⟨_, rfl, _⟩ := h; rfl) | (obtain ⟨_, _, rfl, _⟩ := h; rfl) | (obtain ⟨_, _, _, rfl, _⟩ := h; rfl) | (obtain ⟨_, _, _, _, rfl, _⟩ := h; rfl) | (obtain ⟨_, _, _, _, _, rfl, _⟩ := h; rfl) | (obtain ⟨_, _, _, _, _, _, rfl, _⟩ := h; rfl)
  · skip
    refine ⟨_, (pss_cons (ps_set (i := 3) sc__law_two.nd rfl (Or.inl rfl) (pe_lst (Fx.pa_c pe_str pa_nil)))
        (pss_cons (ps_if (pt_cmpR op_eq (Fx.pe_cal C__law_cut (hr.mono (by decide)) pass0 (Fx.pa_c (pv 0) (Fx.pa_c (pv 1) pa_nil))) (Fx.pe_cal C__law_cut (hr.mono (by decide)) pass0 (Fx.pa_c (pv 0) (Fx.pa_c (pv 2) pa_nil))) (nomark _)) (pss_one (ps_set (i := 3) sc__law_two.nd rfl (Or.inl rfl) (pe_lst (Fx.pa_c pe_str pa_nil)))) pss_nil)
        (pss_one (ps_ret (pe_and (pe_cmpR (Fx.eq_LL hr.units) (Fx.pe_calG C__law_compared hG (hr.mono (by decide)) pass0 (Fx.pa_c (pv 0) (Fx.pa_c (pv 1) (Fx.pa_c (pv 2) pa_nil)))) (pv 3) (nomark _)) (pe_one (pe_cmpR (Fx.eq_LL hr.units) (Fx.pe_calG C__law_compared hG (hr.mono (by decide)) pass0 (Fx.pa_c (pv 0) (Fx.pa_c (pv 2) (Fx.pa_c (pv 1) pa_nil)))) (pv 3) (nomark _)))))))), ?_⟩
    obtain ⟨n, z, y, rfl, n1, n3, hz, lz, hy, ly, q⟩ := h
    refine seqI fun K1 k1 => ?_
    walk_at "rd"
    refine ⟨by decide, fun p0 n0 => k1 _ _ ?_⟩
    clear k1
    refine seqI fun K1 k1 => ?_
    have s0 := same_new (o := .lst [.str "unlike"]) n0
    have go : ∀ (p : Addr) (H1 : Hp), Same H H1 → H1 p = some (.lst (alikeV n z y)) → K1 [some (.int n), some (.str z), some (.str y), some (.ref p)] H1 := by
      intro p H1 s1 hp
      refine k1 _ _ ?_
      walk_at "rd"
      have yes : ∀ {A B : Prop} {l : List V}, A → (if l = l then A else B) := fun h => by rw [if_pos rfl]; exact h
      have sym : alikeV n y z = alikeV n z y := by
        unfold alikeV
        by_cases e : cutT n z = cutT n y
        · rw [if_pos e, if_pos e.symm]
        · rw [if_neg e, if_neg fun h => e h.symm]
      refine ⟨_, _, _, rfl, .inr (.inr (.inr ⟨n, z, y, ⟨rfl, n1, n3⟩, ⟨rfl, lz, hz⟩, ⟨rfl, ly, hy⟩, fun p1 H2 s2 h2 => ⟨p1, rfl, _, h2, _, s2 _ _ hp, alike_ok n z y, alike_ok n z y, yes ?_⟩⟩))⟩
      refine ⟨_, _, _, rfl, .inr (.inr (.inr ⟨n, y, z, ⟨rfl, n1, n3⟩, ⟨rfl, ly, hy⟩, ⟨rfl, lz, hz⟩, fun p2 H3 s3 h3 => ⟨p2, rfl, _, h3, _, s3 _ _ (s2 _ _ hp), alike_ok n y z, alike_ok n z y, ?_⟩⟩))⟩
      rw [decide_eq_true sym]
      exact q H3 ((s1.trans s2).trans s3)
    clear k1
    refine ifI fun A B ka kb => ?_
    walk_at "rd"
    refine ⟨n, z, rfl, n1, n3, lz, hz, fun H1 s1 => ⟨n, y, rfl, n1, n3, ly, hy, fun H2 s2 => ⟨rfl, ?_⟩⟩⟩
    simp only [V.str.injEq]
    have sB := (s0.trans s1).trans s2
    have h0 : H2 p0 = some (.lst [.str "unlike"]) := s2 _ _ (s1 _ _ upd_same)
    refine ite_i (fun e => ka _ ?_) (fun e => kb _ ?_)
    · walk_at "rd"
      refine ⟨by decide, fun p1 n1' => go p1 _ (sB.trans (same_new n1')) ?_⟩
      rw [upd_same]
      unfold alikeV
      rw [if_pos e]
    · walk_at "rd"
      refine go p0 _ sB ?_
      rw [h0]
      unfold alikeV
      rw [if_neg e]
end
section
variable {P : Program} {w : World} {K : PySem.W.Frag} {mg : Str → Option Value} {base : Heap}
theorem ok__law_refusals (S : Src K mg "_law_refusals" s__law_refusals) (T : Tx P K mg) (C__law_odd : Cal P w K mg base CX0 2 "_law_odd" ["_law_bag_here"] (spOdd K)) (C_is_word : Cal P w K mg base CX0 1 "is_word" ["thing"] spIsWord) (C__law_cut_told : CalG P w K mg base CX0 6 "_law_cut_told" ["_law_number", "_law_word"] (spTold K)) (C__law_compared : CalG P w K mg base CX0 7 "_law_compared" ["_law_number", "_law_first", "_law_second"] (spComp K)) (C__law_pick : Cal P w K mg base CX0 1 "_law_pick" ["_law_bag_here", "_law_many"] spPick)  : CalG P w K mg base CX0 8 "_law_refusals" ["_law_bag_here", "_law_number", "_law_word"] (spRef K) := by
  refine S.calG sc__law_refusals bn__law_refusals (fun vs H Q E h => ?_) (fun f cdv A outer s H vs Q E hG hr h => ?_)
  · first | (obtain ⟨rfl, _⟩ := h; rfl) | (obtain ⟨_, rfl, _⟩ := h; rfl) | (obtain ⟨_, _, rfl, _⟩ := h; rfl) | (obtain ⟨_, _, _, rfl, _⟩ := h; rfl) | (obtain ⟨_, _, _, _, rfl, _⟩ := h; rfl) | (obtain ⟨_, _, _, _, _, rfl, _⟩ := h; rfl) | (obtain ⟨_, _, _, _, _, _, rfl, _⟩ := h; rfl)
  · skip
    refine ⟨_, (pss_cons (ps_set (i := 3) sc__law_refusals.nd rfl (Or.inl rfl) (Fx.pe_cal C__law_odd (hr.mono (by decide)) pass0 (Fx.pa_c (pv 0) pa_nil)))
        (pss_cons (ps_set (i := 4) sc__law_refusals.nd rfl (Or.inl rfl) (Fx.pe_cal C__law_odd (hr.mono (by decide)) pass0 (Fx.pa_c (pv 0) pa_nil)))
        (pss_cons (ps_set (i := 5) sc__law_refusals.nd rfl (Or.inl rfl) (pe_lst (Fx.pa_c pe_str (Fx.pa_c (Fx.pe_cB (Fx.call_reprK (K := K) rfl hG hr.units) T.b_repr (by decide +kernel) (Fx.pa_c (pv 3) pa_nil)) pa_nil))))
        (pss_cons (ps_if (PW.pt (pw_or (pt_cmpR op_noBo (Fx.pe_cal C_is_word (hr.mono (by decide)) pass0 (Fx.pa_c (pv 3) pa_nil)) pe_bl (nomark _)) (pw_or1 (pt_cmpR (Fx.ne_LL hr.units) (Fx.pe_calG C__law_cut_told hG (hr.mono (by decide)) pass0 (Fx.pa_c (pv 1) (Fx.pa_c (pv 3) pa_nil))) (pv 5) (nomark _))))) (pss_one (ps_ret pe_bl)) pss_nil)
        (pss_cons (ps_for PassesOwn.never rfl (pi_list (pe_lst (Fx.pa_c (pe_lst (Fx.pa_c (pv 3) (Fx.pa_c (pv 2) pa_nil))) (Fx.pa_c (pe_lst (Fx.pa_c (pv 2) (Fx.pa_c (pv 3) pa_nil))) (Fx.pa_c (pe_lst (Fx.pa_c (pv 3) (Fx.pa_c (pv 4) pa_nil))) pa_nil))))) (pg_name (i := 6) sc__law_refusals.nd rfl (Or.inl rfl)) (pss_one (ps_if (pt_cmpR (Fx.ne_LL hr.units) (Fx.pe_calG C__law_compared hG (hr.mono (by decide)) pass0 (Fx.pa_c (pv 1) (Fx.pa_c (pe_ix Fx.ix_L (pv 6) pe_int (fun _ _ => rfl)) (Fx.pa_c (pe_ix Fx.ix_L (pv 6) pe_int (fun _ _ => rfl)) pa_nil)))) (pv 5) (nomark _)) (pss_one (ps_ret pe_bl)) pss_nil)))
        (pss_cons (ps_set (i := 7) sc__law_refusals.nd rfl (Or.inl rfl) (pe_ix Fx.ix_L (pe_lst (Fx.pa_c pe_int (Fx.pa_c pe_int (Fx.pa_c (pe_un un_neg pe_int) (Fx.pa_c pe_bl (Fx.pa_c pe_bl (Fx.pa_c pe_non (Fx.pa_c pe_str (Fx.pa_c (pe_tup (Fx.pa_c pe_int pa_nil)) (Fx.pa_c (pe_lst (Fx.pa_c pe_int pa_nil)) (Fx.pa_c (pe_op op_pow pe_int pe_int) pa_nil))))))))))) (Fx.pe_cal C__law_pick (hr.mono (by decide)) pass0 (Fx.pa_c (pv 0) (Fx.pa_c pe_int pa_nil))) (fun _ _ => rfl)))
        (pss_cons (ps_set (i := 5) sc__law_refusals.nd rfl (Or.inl rfl) (pe_lst (Fx.pa_c pe_str (Fx.pa_c (Fx.pe_cB (Fx.call_reprK (K := K) rfl hG hr.units) T.b_repr (by decide +kernel) (Fx.pa_c (pv 7) pa_nil)) pa_nil))))
        (pss_cons (ps_for PassesOwn.never rfl (pi_list (pe_lst (Fx.pa_c (pv 2) (Fx.pa_c (pv 3) pa_nil)))) (pg_name (i := 8) sc__law_refusals.nd rfl (Or.inl rfl)) (pss_one (ps_if (PW.pt (pw_or (pt_cmpR (Fx.ne_LL hr.units) (Fx.pe_calG C__law_cut_told hG (hr.mono (by decide)) pass0 (Fx.pa_c (pv 7) (Fx.pa_c (pv 8) pa_nil))) (pv 5) (nomark _)) (pw_or1 (pt_cmpR (Fx.ne_LL hr.units) (Fx.pe_calG C__law_compared hG (hr.mono (by decide)) pass0 (Fx.pa_c (pv 7) (Fx.pa_c (pv 8) (Fx.pa_c (pv 2) pa_nil)))) (pv 5) (nomark _))))) (pss_one (ps_ret pe_bl)) pss_nil)))
        (pss_one (ps_ret pe_bl)))))))))), ?_⟩
    obtain ⟨b, n, z, rfl, hB, n1, n3, hz, lz, q⟩ := h
    refine seqI fun K1 k1 => ?_
    walk_at "rd"
    refine ⟨b, rfl, hB, fun v d H1 kp1 bw1 sh1 => k1 _ _ ?_⟩
    clear k1
    refine seqI fun K1 k1 => ?_
    walk_at "rd"
    refine ⟨b, rfl, kp1.bag, fun v2 d2 H2 kp2 bw2 sh2 => k1 _ _ ?_⟩
    clear k1
    have yes : ∀ {A B : Prop} {l : List V}, A → (if l = l then A else B) := fun h => by rw [if_pos rfl]; exact h
    replace bw1 := BadW.kp kp1.bag kp2 bw1
    replace sh1 := sh1.kp kp1.bag kp2
    have B2 := kp2.bag
    have kpT := kp1.trans kp2
    clear kp1 kp2 hB
    have gv : GoodV (.int n) n := ⟨rfl, n1, n3⟩
    have gw : GoodW (.str z) z := ⟨rfl, lz, hz⟩
    refine seqI fun K1 k1 => ?_
    simp only [rRepr]
    walk_at "rd"
    refine ⟨v, d, rfl, sh1.dp, sh1.sh, sh1.nd, sh1.dep, sh1.len, by decide, fun p3 n3' => k1 _ _ ?_⟩
    clear k1
    have wok : ([V.str "word", V.str d.shown] : List V).all isF = true := by
      show (isF (.str "word") && (isF (.str d.shown) && true)) = true
      rw [sh1.ok]
      decide +kernel
    have t3 := same_new (o := .lst [.str "word", .str d.shown]) n3'
    have h3 : (upd H2 p3 (.lst [.str "word", .str d.shown])) p3 = some (.lst [.str "word", .str d.shown]) := upd_same
    generalize upd H2 p3 (.lst [.str "word", .str d.shown]) = H3 at t3 h3
    replace bw1 := bw1.same t3
    replace bw2 := bw2.same t3
    replace sh1 := sh1.same t3
    replace sh2 := sh2.same t3
    have B3 := B2.same t3
    replace kpT := kpT.then t3
    clear B2 t3 n3'
    refine seqI fun K1 k1 => ?_
    walk_at "rd"
    refine bad_word bw1 fun H4 s4 => ⟨false, rfl, ?_⟩
    rw [if_pos rfl]
    refine ⟨_, _, rfl, .inr (.inl ⟨n, d, gv, bw1.same s4, sh1.same s4, fun p5 H5 s5 h5 => ⟨p5, rfl, _, h5, _, s5 _ _ (s4 _ _ h3), wok, wok, yes (k1 _ _ ?_)⟩⟩)⟩
    clear k1 h5
    have sA := s4.trans s5
    replace h3 := sA _ _ h3
    replace bw1 := bw1.same sA
    replace bw2 := bw2.same sA
    replace sh1 := sh1.same sA
    replace sh2 := sh2.same sA
    replace B3 := B3.same sA
    replace kpT := kpT.then sA
    clear sA s4 s5
    refine seqI fun K1 k1 => ?_
    refine forI fun R kR => ?_
    walk_at "rd"
    refine ⟨by decide, fun q1 m1 => ⟨by decide, fun q2 m2 => ⟨by decide, fun q3 m3 => ⟨by decide, fun q4 m4 => ⟨⟨_, .inl (.inl upd_same)⟩, kR _ _ ?_⟩⟩⟩⟩⟩
    clear kR
    have t1 := same_new (o := .lst [v, .str z]) m1
    have t2 := same_new (o := .lst [.str z, v]) m2
    have t3 := same_new (o := .lst [v, v2]) m3
    have t4 := same_new (o := .lst [.ref q1, .ref q2, .ref q3]) m4
    have g1 := t4 _ _ (t3 _ _ (t2 _ _ (upd_same (H := H5) (a := q1) (o := .lst [v, .str z]))))
    have g2 := t4 _ _ (t3 _ _ (upd_same (H := upd H5 q1 (.lst [v, .str z])) (a := q2) (o := .lst [.str z, v])))
    have g3 := t4 _ _ (upd_same (H := upd (upd H5 q1 (.lst [v, .str z])) q2 (.lst [.str z, v])) (a := q3) (o := .lst [v, v2]))
    have g4 := upd_same (H := upd (upd (upd H5 q1 (.lst [v, .str z])) q2 (.lst [.str z, v])) q3 (.lst [v, v2])) (a := q4) (o := .lst [.ref q1, .ref q2, .ref q3])
    have sA := ((t1.trans t2).trans t3).trans t4
    generalize upd (upd (upd (upd H5 q1 (.lst [v, .str z])) q2 (.lst [.str z, v])) q3 (.lst [v, v2])) q4 (.lst [.ref q1, .ref q2, .ref q3]) = H6 at sA g1 g2 g3 g4
    replace h3 := sA _ _ h3
    replace bw1 := bw1.same sA
    replace bw2 := bw2.same sA
    replace sh1 := sh1.same sA
    replace sh2 := sh2.same sA
    replace B3 := B3.same sA
    replace kpT := kpT.then sA
    clear sA t1 t2 t3 t4 m1 m2 m3 m4
    have row : ∀ x ∈ [V.ref q1, V.ref q2, V.ref q3], ∃ (qx : Addr) (a1 b1 : V), x = .ref qx ∧ H6 qx = some (.lst [a1, b1]) ∧ ∀ (H' : Hp) (Q' : VK), Same H6 H' → (∀ p H'', Same H' H'' → H'' p = some (.lst [.str "word", .str d.shown]) → Q' (.ref p) H'') → spComp K [.int n, a1, b1] H' Q' E0 := by
      intro x hx
      simp only [List.mem_cons, List.not_mem_nil, or_false] at hx
      rcases hx with rfl | rfl | rfl
      · exact ⟨q1, v, .str z, rfl, g1, fun H' Q' s' k => ⟨_, _, _, rfl, .inr (.inl ⟨n, d, gv, bw1.same s', sh1.same s', k⟩)⟩⟩
      · exact ⟨q2, .str z, v, rfl, g2, fun H' Q' s' k => ⟨_, _, _, rfl, .inr (.inr (.inl ⟨n, z, d, gv, gw, bw1.same s', sh1.same s', k⟩))⟩⟩
      · exact ⟨q3, v, v2, rfl, g3, fun H' Q' s' k => ⟨_, _, _, rfl, .inr (.inl ⟨n, d, gv, bw1.same s', sh1.same s', k⟩)⟩⟩
    refine for_list (K := K) (a := q4) (xs := [.ref q1, .ref q2, .ref q3]) (fun i σ H' => ∃ v6, σ = [some (.ref b), some (.int n), some (.str z), some v, some v2, some (.ref p3), v6, none, none] ∧ Same H6 H') ⟨none, rfl, Same.refl _⟩ (fun i σ H' _ ⟨_, _, e⟩ => .inl (.inl (e _ _ g4))) ?_ ?_
    · rintro i x σ H7 hx ⟨v6, rfl, s7⟩
      obtain ⟨qx, a1, b1, rfl, hq, hc⟩ := row x (List.mem_of_getElem? hx)
      clear k1
      walk_at "rd"
      refine ⟨_, s7 _ _ hq, a1, rfl, _, s7 _ _ hq, b1, rfl, hc H7 _ s7 fun p8 H8 s8 h8 => ⟨p8, rfl, _, h8, _, s8 _ _ (s7 _ _ h3), wok, wok, yes ?_⟩⟩
      exact s7.trans s8
    rintro σ H7 ⟨v6, rfl, s7⟩
    refine k1 _ _ ?_
    clear k1 row
    replace h3 := s7 _ _ h3
    replace bw1 := bw1.same s7
    replace B3 := B3.same s7
    replace kpT := kpT.then s7
    clear g1 g2 g3 g4 sh1 sh2 bw2 h3 s7
    refine seqI fun K1 k1 => ?_
    walk_at "rd"
    refine ⟨by decide, fun p1 m1 => ⟨by decide, fun p2 m2 => ⟨⟨by decide, by decide, by decide⟩, by decide, fun p4 m4 => ?_⟩⟩⟩
    have t1 := same_new (o := .tup [.int 1]) m1
    have t2 := same_new (o := .lst [.int 2]) m2
    have t4 := same_new (o := .lst (strL p1 p2)) m4
    have g1 := t4 _ _ (t2 _ _ (upd_same (H := H7) (a := p1) (o := .tup [.int 1])))
    have g2 := t4 _ _ (upd_same (H := upd H7 p1 (.tup [.int 1])) (a := p2) (o := .lst [.int 2]))
    have g4 := upd_same (H := upd (upd H7 p1 (.tup [.int 1])) p2 (.lst [.int 2])) (a := p4) (o := .lst (strL p1 p2))
    have sA := (t1.trans t2).trans t4
    show spPick _ (upd (upd (upd H7 p1 (.tup [.int 1])) p2 (.lst [.int 2])) p4 (.lst (strL p1 p2))) _ _
    generalize upd (upd (upd H7 p1 (.tup [.int 1])) p2 (.lst [.int 2])) p4 (.lst (strL p1 p2)) = H8 at sA g1 g2 g4
    replace bw1 := bw1.same sA
    replace B3 := B3.same sA
    replace kpT := kpT.then sA
    clear sA t1 t2 t4 m1 m2 m4
    refine ⟨b, 10, rfl, B3, by decide, by decide, fun g H9 r0 r1 kp => ⟨g, rfl, _, kp.lst B3 g4, ?_⟩⟩
    obtain ⟨sv, hs, hm⟩ := atI_mem (xs := strL p1 p2) r0 (show g < 10 from r1)
    obtain ⟨ds, bv, sh⟩ := str_bad (K := K) hm (kp.tup B3 g1) (kp.lst B3 g2)
    refine ⟨sv, hs, k1 _ _ ?_⟩
    replace kpT := kpT.trans kp
    clear k1 g1 g2 g4 hs hm bw1 B3 kp r0 r1
    refine seqI fun K1 k1 => ?_
    simp only [rRepr]
    walk_at "rd"
    refine ⟨sv, ds, rfl, sh.dp, sh.sh, sh.nd, sh.dep, sh.len, by decide, fun p5 n5 => k1 _ _ ?_⟩
    clear k1
    have vok : ([V.str "version", V.str ds.shown] : List V).all isF = true := by
      show (isF (.str "version") && (isF (.str ds.shown) && true)) = true
      rw [sh.ok]
      decide +kernel
    have t5 := same_new (o := .lst [.str "version", .str ds.shown]) n5
    have h5 : (upd H9 p5 (.lst [.str "version", .str ds.shown])) p5 = some (.lst [.str "version", .str ds.shown]) := upd_same
    generalize upd H9 p5 (.lst [.str "version", .str ds.shown]) = H10 at t5 h5
    replace bv := bv.same t5
    replace kpT := kpT.then t5
    replace sh := sh.same t5
    clear t5 n5
    refine seqI fun K1 k1 => ?_
    refine forI fun R kR => ?_
    walk_at "rd"
    refine ⟨by decide, fun q1 m1 => ⟨⟨_, .inl (.inl upd_same)⟩, kR _ _ ?_⟩⟩
    clear kR
    have t1 := same_new (o := .lst [.str z, v]) m1
    have g1 := upd_same (H := H10) (a := q1) (o := .lst [.str z, v])
    generalize upd H10 q1 (.lst [.str z, v]) = H11 at t1 g1
    replace bv := bv.same t1
    replace kpT := kpT.then t1
    replace sh := sh.same t1
    replace h5 := t1 _ _ h5
    clear t1 m1
    refine for_list (K := K) (a := q1) (xs := [.str z, v]) (fun i σ H' => ∃ v8, σ = [some (.ref b), some (.int n), some (.str z), some v, some v2, some (.ref p5), v6, some sv, v8] ∧ Same H11 H') ⟨none, rfl, Same.refl _⟩ (fun i σ H' _ ⟨_, _, e⟩ => .inl (.inl (e _ _ g1))) ?_ ?_
    · rintro i x σ H12 hx ⟨v8, rfl, s12⟩
      clear k1
      walk_at "rd"
      refine ⟨_, _, rfl, .inl ⟨ds, bv.same s12, sh.same s12, fun p8 H13 s13 h8 => ⟨p8, rfl, _, h8, _, s13 _ _ (s12 _ _ h5), vok, vok, yes ?_⟩⟩⟩
      have sB := s12.trans s13
      refine ⟨_, _, _, rfl, .inl ⟨ds, bv.same sB, sh.same sB, fun p9 H14 s14 h9 => ⟨p9, rfl, _, h9, _, s14 _ _ (sB _ _ h5), vok, vok, yes ?_⟩⟩⟩
      exact sB.trans s14
    rintro σ H12 ⟨v8, rfl, s12⟩
    refine k1 _ _ ?_
    walk_at "rd"
    exact q _ (kpT.then s12)
end
section
variable {P : Program} {w : World} {K : PySem.W.Frag} {mg : Str → Option Value} {base : Heap}
theorem ok_law {f0 : Addr} {fd : FuncData} (F : FunD K "law" "law" (defArgs s_law) (defBody s_law) (defScope s_law) [] [] f0 fd) (T : Tx P K mg) (C__law_bag : Cal P w K mg base CX0 1 "_law_bag" ["_law_script"] (spBag K)) (C__law_pick : Cal P w K mg base CX0 1 "_law_pick" ["_law_bag_here", "_law_many"] spPick) (C__law_typed : Cal P w K mg base CX0 2 "_law_typed" ["_law_bag_here", "_law_pool"] spTyped) (C_is_word : Cal P w K mg base CX0 1 "is_word" ["thing"] spIsWord) (C__law_cut_told : CalG P w K mg base CX0 6 "_law_cut_told" ["_law_number", "_law_word"] (spTold K)) (C__law_cut : Cal P w K mg base CX0 2 "_law_cut" ["_law_version", "_law_word"] spLCut) (C__law_two : CalG P w K mg base CX0 8 "_law_two" ["_law_number", "_law_first", "_law_second"] spTwo) (C__law_refusals : CalG P w K mg base CX0 8 "_law_refusals" ["_law_bag_here", "_law_number", "_law_word"] (spRef K))  : FnG P w K mg base CX0 9 f0 fd ["_law_script"] (spLaw K) := by
  refine lawG F sc_law (fun vs H Q E h => ?_) (fun f cdv A outer s H vs Q E hG hr h => ?_)
  · first | (obtain ⟨rfl, _⟩ := h; rfl) | (obtain ⟨_, rfl, _⟩ := h; rfl) | (obtain ⟨_, _, rfl, _⟩ := h; rfl) | (obtain ⟨_, _, _, rfl, _⟩ := h; rfl) | (obtain ⟨_, _, _, _, rfl, _⟩ := h; rfl) | (obtain ⟨_, _, _, _, _, rfl, _⟩ := h; rfl) | (obtain ⟨_, _, _, _, _, _, rfl, _⟩ := h; rfl)
  · skip
    refine ⟨_, (pss_cons (ps_set (i := 1) sc_law.nd rfl (Or.inl rfl) (Fx.pe_cal C__law_bag (hr.mono (by decide)) pass0 (Fx.pa_c (pv 0) pa_nil)))
        (pss_cons (ps_set (i := 2) sc_law.nd rfl (Or.inl rfl) (pe_op op_add pe_int (Fx.pe_cal C__law_pick (hr.mono (by decide)) pass0 (Fx.pa_c (pv 1) (Fx.pa_c pe_int pa_nil)))))
        (pss_cons (ps_set (i := 3) sc_law.nd rfl (Or.inl rfl) (pe_lst pa_nil))
        (pss_cons (ps_for PassesOwn.never rfl (pi_range1 rfl T.b_range (Fx.pa_c (pe_op op_add pe_int (Fx.pe_cal C__law_pick (hr.mono (by decide)) pass0 (Fx.pa_c (pv 1) (Fx.pa_c pe_int pa_nil)))) pa_nil)) (pg_name (i := 4) sc_law.nd rfl (Or.inl rfl)) (pss_one (ps_expr (pe_bm PySem.F.plainAttrs_list PySem.F.slot_list_append PySem.F.type_list_append mt_append (pv 3) (Fx.pa_c (Fx.pe_cal C__law_typed (hr.mono (by decide)) pass0 (Fx.pa_c (pv 1) (Fx.pa_c (pv 3) pa_nil))) pa_nil)))))
        (pss_cons (ps_for PassesOwn.never rfl (pi_list (pv 3)) (pg_name (i := 5) sc_law.nd rfl (Or.inl rfl)) (pss_cons (ps_if (pt_cmpR op_noBo (Fx.pe_cal C_is_word (hr.mono (by decide)) pass0 (Fx.pa_c (pv 5) pa_nil)) pe_bl (nomark _)) (pss_one (ps_ret pe_bl)) pss_nil)
        (pss_one (ps_for PassesOwn.never rfl (pi_list (pe_lst (Fx.pa_c (pv 2) (Fx.pa_c pe_int (Fx.pa_c pe_int (Fx.pa_c pe_int (Fx.pa_c (pv 2) pa_nil))))))) (pg_name (i := 6) sc_law.nd rfl (Or.inl rfl)) (pss_cons (ps_if (pt_cmpR (Fx.ne_LL hr.units) (Fx.pe_calG C__law_cut_told hG (hr.mono (by decide)) pass0 (Fx.pa_c (pv 6) (Fx.pa_c (pv 5) pa_nil))) (pe_lst (Fx.pa_c pe_str (Fx.pa_c (Fx.pe_cal C__law_cut (hr.mono (by decide)) pass0 (Fx.pa_c (pv 6) (Fx.pa_c (pv 5) pa_nil))) pa_nil))) (nomark _)) (pss_one (ps_ret pe_bl)) pss_nil)
        (pss_one (ps_if (PW.pt (pw_or (pt_not (pt_val (Fx.pe_calG C__law_two hG (hr.mono (by decide)) pass0 (Fx.pa_c (pv 6) (Fx.pa_c (pv 5) (Fx.pa_c (pe_ix Fx.ix_L (pv 3) pe_int (fun _ _ => rfl)) pa_nil)))))) (pw_or1 (pt_not (pt_val (Fx.pe_calG C__law_two hG (hr.mono (by decide)) pass0 (Fx.pa_c (pv 6) (Fx.pa_c (pv 5) (Fx.pa_c (pe_ix Fx.ix_L (pv 3) (pe_un un_neg pe_int) (fun _ _ => rfl)) pa_nil))))))))) (pss_one (ps_ret pe_bl)) pss_nil)))))))
        (pss_cons (ps_if (pt_not (pt_val (Fx.pe_calG C__law_refusals hG (hr.mono (by decide)) pass0 (Fx.pa_c (pv 1) (Fx.pa_c (pv 2) (Fx.pa_c (pe_ix Fx.ix_L (pv 3) (pe_un un_neg pe_int) (fun _ _ => rfl)) pa_nil)))))) (pss_one (ps_ret pe_bl)) pss_nil)
        (pss_cons (ps_set (i := 7) sc_law.nd rfl (Or.inl rfl) (pe_op op_add_str (pe_slice sl_str (pe_ix Fx.ix_L (pv 3) pe_int (fun _ _ => rfl)) po_none (po_some pe_int)) pe_str))
        (pss_cons (ps_if (pt_cmpR op_eq (pe_ix Fx.ix_L (pv 3) pe_int (fun _ _ => rfl)) pe_str (nomark _)) (pss_one (ps_ret (pe_cmpR op_isBo (Fx.pe_cal C_is_word (hr.mono (by decide)) pass0 (Fx.pa_c (pv 7) pa_nil)) pe_bl (nomark _)))) pss_nil)
        (pss_one (ps_ret (pe_and (pe_cmpR op_isBo (Fx.pe_cal C_is_word (hr.mono (by decide)) pass0 (Fx.pa_c (pv 7) pa_nil)) pe_bl (nomark _)) (pe_one (pe_cmpR (Fx.eq_LL hr.units) (Fx.pe_calG C__law_cut_told hG (hr.mono (by decide)) pass0 (Fx.pa_c (pv 2) (Fx.pa_c (pv 7) pa_nil))) (pe_lst (Fx.pa_c pe_str (Fx.pa_c (Fx.pe_cal C__law_cut (hr.mono (by decide)) pass0 (Fx.pa_c (pv 2) (Fx.pa_c (pv 7) pa_nil))) pa_nil))) (nomark _)))))))))))))), ?_⟩
    obtain ⟨a, ns, rfl, hS, hlen, q⟩ := h
    have yes : ∀ {A B : Prop} {l : List V}, A → (if l = l then A else B) := fun h => by rw [if_pos rfl]; exact h
    refine seqI fun K1 k1 => ?_
    walk_at "rd"
    refine ⟨a, ns, rfl, hS, hlen, fun b H1 s1 n1 B1 => k1 _ _ ?_⟩
    clear k1 s1 n1
    refine seqI fun K1 k1 => ?_
    walk_at "rd"
    refine ⟨b, 3, rfl, B1, by decide, by decide, fun m H2 m0 m1 kp2 => ⟨m, rfl, k1 _ _ ?_⟩⟩
    clear k1
    have v1 : 1 ≤ 1 + m := by omega
    have v3 : 1 + m ≤ 3 := by omega
    generalize 1 + m = n at v1 v3
    have B2 := kp2.bag
    clear kp2 B1 m0 m1
    refine seqI fun K1 k1 => ?_
    walk_at "rd"
    refine ⟨by decide, fun p np => k1 _ _ ?_⟩
    clear k1
    have kp3 : Kp b H2 (upd H2 p (.lst [])) := Kp.same B2 (same_new np)
    have h3 : (upd H2 p (.lst [])) p = some (.lst (([] : List Str).map V.str)) := upd_same
    generalize upd H2 p (.lst []) = H3 at kp3 h3
    refine seqI fun K1 k1 => ?_
    refine forI fun R kR => ?_
    walk_at "rd"
    refine ⟨b, 5, rfl, kp3.bag, by decide, by decide, fun m H4 m0 m1 kp4 => ⟨m, rfl, by omega, by omega, kR _ _ ?_⟩⟩
    clear kR R
    refine for_range (lo := 0) (n := (1 + m).toNat) (fun i σ H' => ∃ (v4 : Option V) (ws : List Str), σ = [some (.ref a), some (.ref b), some (.int n), some (.ref p), v4, none, none, none] ∧ H' p = some (.lst (ws.map V.str)) ∧ ws.length = i ∧ (∀ z ∈ ws, isW z = true ∧ z.length ≤ 20) ∧ Kp b H2 H') ⟨none, [], rfl, kp4.lst kp3.bag h3, rfl, fun z hz => by (cases hz), kp3.trans kp4⟩ ?_ ?_
    · rintro i σ H' hi ⟨v4, ws, rfl, hp, hl, hw, kp⟩
      clear k1
      walk_at "rd"
      refine ⟨tyL hp, b, p, ws, rfl, kp.bag, hp, by omega, hw, fun z H5 hz1 hz2 kp5 => ⟨_, kp5.lst kp.bag hp, ?_, ws ++ [z], ?_, ?_, ?_, Kp.put B2 (kp.trans kp5) np⟩⟩
      · rw [List.length_map]
        exact Nat.lt_of_lt_of_le (by omega : _ < 100) (by decide)
      · rw [List.map_append]
        rfl
      · rw [List.length_append, hl]
        rfl
      · intro x hx
        rcases List.mem_append.mp hx with hx | hx
        · exact hw x hx
        · rw [List.mem_singleton.mp hx]
          exact ⟨hz1, hz2⟩
    rintro σ H5 ⟨v4, ws, rfl, hp, hl, hw, kp⟩
    refine k1 _ _ ?_
    have B5 := kp.bag
    clear k1 kp kp4 kp3 B2 h3 np
    have hl1 : 1 ≤ ws.length := by omega
    have hl2 : ws.length ≤ 5 := by omega
    clear hl m0 m1
    obtain ⟨w0, e0, i0⟩ : ∃ w0, atI (ws.map V.str) 0 = some (.str w0) ∧ w0 ∈ ws := by
      cases ws with
      | nil => exact absurd hl1 (by decide)
      | cons x l => exact ⟨x, atI_get (i := 0) rfl, List.mem_cons_self ..⟩
    obtain ⟨w9, e9, i9⟩ : ∃ w9, atI (ws.map V.str) (-1) = some (.str w9) ∧ w9 ∈ ws := by
      have e : ixN (ws.map V.str).length (-1) = some (ws.length - 1) := by
        unfold ixN
        rw [if_neg (by decide), List.length_map, if_pos (by omega)]
        congr 1
        omega
      unfold atI
      rw [e]
      have hlt : ws.length - 1 < ws.length := by omega
      exact ⟨ws[ws.length - 1], by simp [hlt], List.getElem_mem hlt⟩
    obtain ⟨ok0, len0⟩ := hw w0 i0
    obtain ⟨ok9, len9⟩ := hw w9 i9
    refine seqI fun K1 k1 => ?_
    refine ⟨_, rfl, p, rfl, ⟨_, .inl (.inl hp)⟩, ?_⟩
    refine for_list (K := K) (a := p) (xs := ws.map V.str) (fun i σ H' => ∃ (v5 v6 : Option V), σ = [some (.ref a), some (.ref b), some (.int n), some (.ref p), v4, v5, v6, none] ∧ Same H5 H') ⟨none, none, rfl, Same.refl _⟩ (fun i σ H' _ ⟨_, _, _, e⟩ => .inl (.inl (e _ _ hp))) ?_ ?_
    · rintro i x σ H6 hx ⟨v5, v6, rfl, s6⟩
      obtain ⟨z, hz, rfl⟩ := List.mem_map.mp (List.mem_of_getElem? hx)
      obtain ⟨okz, lenz⟩ := hw z hz
      clear k1
      show tSeq _ _ _ _ _
      refine seqI fun K1 k1 => ?_
      walk_at "rd"
      refine ⟨_, rfl, .inl ⟨z, rfl, by omega, fun H7 s7 => ⟨_, rfl, ?_⟩⟩⟩
      rw [okz, if_pos rfl]
      refine k1 _ _ ?_
      clear k1
      refine forI fun R kR => ?_
      walk_at "rd"
      refine ⟨by decide, fun q1 m1 => ⟨⟨_, .inl (.inl upd_same)⟩, kR _ _ ?_⟩⟩
      clear kR
      have t1 := same_new (o := .lst (mi [n, 1, 2, 3, n])) m1
      have g1 := upd_same (H := H7) (a := q1) (o := .lst (mi [n, 1, 2, 3, n]))
      have sA := (s6.trans s7).trans t1
      have gq : ∀ e ∈ [n, 1, 2, 3, n], 1 ≤ e ∧ e ≤ 3 := by
        intro e he
        simp only [List.mem_cons, List.not_mem_nil, or_false] at he
        omega
      show ∃ W : Nat → Nat → L2.St → Hp → Prop, (∃ m, W 0 m _ (upd H7 q1 (.lst (mi [n, 1, 2, 3, n])))) ∧ _
      generalize upd H7 q1 (.lst (mi [n, 1, 2, 3, n])) = H8 at sA g1
      refine for_list (K := K) (a := q1) (xs := mi [n, 1, 2, 3, n]) (fun i σ H' => ∃ (v6 : Option V), σ = [some (.ref a), some (.ref b), some (.int n), some (.ref p), v4, some (.str z), v6, none] ∧ Same H8 H') ⟨_, rfl, Same.refl _⟩ (fun i σ H' _ ⟨_, _, e⟩ => .inl (.inl (e _ _ g1))) ?_ ?_
      · rintro j y σ H9 hy ⟨v6, rfl, s9⟩
        obtain ⟨e, he, rfl⟩ := List.mem_map.mp (List.mem_of_getElem? hy)
        obtain ⟨e1, e3⟩ := gq e he
        show tSeq _ _ _ _ _
        refine seqI fun K1 k1 => ?_
        walk_at "rd"
        refine ⟨_, _, rfl, .inr (.inr ⟨e, z, ⟨rfl, e1, e3⟩, ⟨rfl, by omega, okz⟩, fun p8 H10 s10 h8 => ?_⟩)⟩
        refine ⟨e, z, rfl, e1, e3, by omega, okz, fun H11 s11 => ⟨by decide, fun p9 n9 => ?_⟩⟩
        refine ⟨p8, rfl, _, same_new n9 _ _ (s11 _ _ h8), told_ok e z, told_ok e z, yes (k1 _ _ ?_)⟩
        clear k1
        have sB := ((s9.trans s10).trans s11).trans (same_new (o := .lst [.str "told", .str (cutT e z)]) n9)
        have hp9 := sB _ _ (sA _ _ hp)
        walk_at "rd"
        refine ⟨_, hp9, _, e0, e, z, w0, rfl, e1, e3, okz, by omega, ok0, by omega, fun H12 s12 => ⟨_, rfl, ?_⟩⟩
        rw [if_neg (by decide)]
        refine ⟨_, s12 _ _ hp9, _, e9, e, z, w9, rfl, e1, e3, okz, by omega, ok9, by omega, fun H13 s13 => ⟨_, rfl, ?_⟩⟩
        rw [if_neg (by decide)]
        exact (sB.trans s12).trans s13
      · rintro σ H9 ⟨v6, rfl, s9⟩
        exact ⟨_, _, rfl, sA.trans s9⟩
    rintro σ H6 ⟨v5, v6, rfl, s6⟩
    refine k1 _ _ ?_
    clear k1
    have h6 := s6 _ _ hp
    have B6 := B5.same s6
    refine seqI fun K1 k1 => ?_
    walk_at "rd"
    refine ⟨_, h6, _, e9, b, n, w9, rfl, B6, v1, v3, ok9, by omega, fun H7 kp7 => ⟨true, rfl, ?_⟩⟩
    rw [if_neg (by decide)]
    refine k1 _ _ ?_
    clear k1
    have h7 := kp7.lst B6 h6
    refine seqI fun K1 k1 => ?_
    walk_at "rd"
    refine ⟨_, h7, _, e0, ?_⟩
    have lc : (cutS w0 none (some 19)).length ≤ 19 := cut_hi w0 19 (by decide)
    have ln : (cutS w0 none (some 19) ++ Str.ofString "z").length ≤ 20 := by
      rw [len_app]
      show _ + 1 ≤ 20
      omega
    have ln1 : 1 ≤ (cutS w0 none (some 19) ++ Str.ofString "z").length := by
      rw [len_app]
      show 1 ≤ _ + 1
      omega
    refine ⟨w0, rfl, sz (by omega), sz (show _ + 1 ≤ 100000 by omega), k1 _ _ ?_⟩
    clear k1
    refine seqI fun K1 k1 => ?_
    refine ifI fun A B ka kb => ?_
    walk_at "rd"
    refine ⟨_, h7, _, e0, rfl, ite_i (fun ew => ka _ ?_) (fun ew => kb _ ?_)⟩
    · have ew : w0 = "," := by simpa using ew
      clear ka kb k1
      subst ew
      walk_at "rd"
      refine ⟨_, rfl, .inl ⟨_, rfl, by omega, fun H8 s8 => ⟨_, rfl, ?_⟩⟩⟩
      have e : isW (cutS "," none (some 19) ++ Str.ofString "z") = false := by decide +kernel
      rw [e]
      exact q _
    walk_at "rd"
    refine k1 _ _ ?_
    have ew : w0 ≠ "," := by
      intro e
      exact ew (by rw [e])
    clear ka kb k1
    have okn : isW (cutS w0 none (some 19) ++ Str.ofString "z") = true := by
      refine isW_of (WS.app (isW_ws ok0 ew).1.cut ?_) ln1 ln
      have : (("z" : Str).cps.toList.all fun c => decide (c ∈ wordSigns.cps.toList)) = true := by decide +kernel
      exact fun c hc => of_decide_eq_true (List.all_eq_true.mp this c hc)
    generalize cutS w0 none (some 19) ++ Str.ofString "z" = wn at ln ln1 okn
    walk_at "rd"
    refine ⟨_, rfl, .inl ⟨_, rfl, by omega, fun H8 s8 => ⟨_, rfl, ?_⟩⟩⟩
    rw [okn]
    rw [if_pos rfl]
    refine ⟨_, _, rfl, .inr (.inr ⟨n, wn, ⟨rfl, v1, v3⟩, ⟨rfl, by omega, okn⟩, fun p8 H10 s10 h8 => ?_⟩)⟩
    refine ⟨n, wn, rfl, v1, v3, by omega, okn, fun H11 s11 => ⟨by decide, fun p9 n9 => ?_⟩⟩
    refine ⟨p8, rfl, _, same_new n9 _ _ (s11 _ _ h8), told_ok n wn, told_ok n wn, ?_⟩
    rw [decide_eq_true rfl]
    exact q _
end
def d_f_Version_MU_initU : He.DefD := ⟨("Version", some "__init__"), "__init__", "Version.__init__", defArgs s_Version_MU_initU, defBody s_Version_MU_initU, defScope s_Version_MU_initU, [], []⟩
def d_f_codes : He.DefD := ⟨("codes", none), "codes", "codes", defArgs s_codes, defBody s_codes, defScope s_codes, [], []⟩
def d_f_plain_codes : He.DefD := ⟨("plain_codes", none), "plain_codes", "plain_codes", defArgs s_plain_codes, defBody s_plain_codes, defScope s_plain_codes, [], []⟩
def d_f_is_integer : He.DefD := ⟨("is_integer", none), "is_integer", "is_integer", defArgs s_is_integer, defBody s_is_integer, defScope s_is_integer, [], []⟩
def d_f_is_word : He.DefD := ⟨("is_word", none), "is_word", "is_word", defArgs s_is_word, defBody s_is_word, defScope s_is_word, [], []⟩
def d_f_cut_form : He.DefD := ⟨("cut_form", none), "cut_form", "cut_form", defArgs s_cut_form, defBody s_cut_form, defScope s_cut_form, [], []⟩
def d_f_alike : He.DefD := ⟨("alike", none), "alike", "alike", defArgs s_alike, defBody s_alike, defScope s_alike, [], []⟩
def d_f__law_bag : He.DefD := ⟨("_law_bag", none), "_law_bag", "_law_bag", defArgs s__law_bag, defBody s__law_bag, defScope s__law_bag, [], []⟩
def d_f__law_pick : He.DefD := ⟨("_law_pick", none), "_law_pick", "_law_pick", defArgs s__law_pick, defBody s__law_pick, defScope s__law_pick, [], []⟩
def d_f__law_codes : He.DefD := ⟨("_law_codes", none), "_law_codes", "_law_codes", defArgs s__law_codes, defBody s__law_codes, defScope s__law_codes, [], []⟩
def d_f__law_cut : He.DefD := ⟨("_law_cut", none), "_law_cut", "_law_cut", defArgs s__law_cut, defBody s__law_cut, defScope s__law_cut, [], []⟩
def d_f__law_typed : He.DefD := ⟨("_law_typed", none), "_law_typed", "_law_typed", defArgs s__law_typed, defBody s__law_typed, defScope s__law_typed, [], []⟩
def d_f__law_odd : He.DefD := ⟨("_law_odd", none), "_law_odd", "_law_odd", defArgs s__law_odd, defBody s__law_odd, defScope s__law_odd, [], []⟩
def d_f__law_cut_told : He.DefD := ⟨("_law_cut_told", none), "_law_cut_told", "_law_cut_told", defArgs s__law_cut_told, defBody s__law_cut_told, defScope s__law_cut_told, [], []⟩
def d_f__law_compared : He.DefD := ⟨("_law_compared", none), "_law_compared", "_law_compared", defArgs s__law_compared, defBody s__law_compared, defScope s__law_compared, [], []⟩
def d_f__law_two : He.DefD := ⟨("_law_two", none), "_law_two", "_law_two", defArgs s__law_two, defBody s__law_two, defScope s__law_two, [], []⟩
def d_f__law_refusals : He.DefD := ⟨("_law_refusals", none), "_law_refusals", "_law_refusals", defArgs s__law_refusals, defBody s__law_refusals, defScope s__law_refusals, [], []⟩
def d_f_law : He.DefD := ⟨("law", none), "law", "law", defArgs s_law, defBody s_law, defScope s_law, [], []⟩
def fn : List He.DefD := [d_f_Version_MU_initU, d_f_codes, d_f_plain_codes, d_f_is_integer, d_f_is_word, d_f_cut_form, d_f_alike, d_f__law_bag, d_f__law_pick, d_f__law_codes, d_f__law_cut, d_f__law_typed, d_f__law_odd, d_f__law_cut_told, d_f__law_compared, d_f__law_two, d_f__law_refusals, d_f_law]
def d_BadText : FxH.InD := ⟨"BadText", "place", "BadText.__init__", inClass (top 4) 0⟩
theorem bd_BadText : ∀ (fd : FuncData) (p1 p2 : Pos), fd.params = xA d_BadText.f p1 p2 → fd.defaults = .none → ∀ (u1 u2 : Value), bindArgs fd ⟨[u1, u2], []⟩ = pure [(("self" : Str), u1), (d_BadText.f, u2)] := fun fd p1 p2 e1 e2 u1 u2 => by
  obtain ⟨n1, n2, n3, n4, n5, n6, n7, n8, n9, n10, n11, n12, n13, n14, n15⟩ := fd
  dsimp only at e1 e2
  subst e1 e2
  rfl
def d_BadVersion : FxH.InD := ⟨"BadVersion", "version", "BadVersion.__init__", inClass (top 3) 0⟩
theorem bd_BadVersion : ∀ (fd : FuncData) (p1 p2 : Pos), fd.params = xA d_BadVersion.f p1 p2 → fd.defaults = .none → ∀ (u1 u2 : Value), bindArgs fd ⟨[u1, u2], []⟩ = pure [(("self" : Str), u1), (d_BadVersion.f, u2)] := fun fd p1 p2 e1 e2 u1 u2 => by
  obtain ⟨n1, n2, n3, n4, n5, n6, n7, n8, n9, n10, n11, n12, n13, n14, n15⟩ := fd
  dsimp only at e1 e2
  subst e1 e2
  rfl
def d_BadWord : FxH.InD := ⟨"BadWord", "word", "BadWord.__init__", inClass (top 5) 0⟩
theorem bd_BadWord : ∀ (fd : FuncData) (p1 p2 : Pos), fd.params = xA d_BadWord.f p1 p2 → fd.defaults = .none → ∀ (u1 u2 : Value), bindArgs fd ⟨[u1, u2], []⟩ = pure [(("self" : Str), u1), (d_BadWord.f, u2)] := fun fd p1 p2 e1 e2 u1 u2 => by
  obtain ⟨n1, n2, n3, n4, n5, n6, n7, n8, n9, n10, n11, n12, n13, n14, n15⟩ := fd
  dsimp only at e1 e2
  subst e1 e2
  rfl
def fi : List FxH.InD := [d_BadText, d_BadVersion, d_BadWord]
def fa : List FxH.Fct := [(He.Fa.free "ValueError").ok,
  (He.Fa.free "all").ok,
  (He.Fa.free "bool").ok,
  (He.Fa.free "int").ok,
  (He.Fa.free "isinstance").ok,
  (He.Fa.free "len").ok,
  (He.Fa.free "ord").ok,
  (He.Fa.free "range").ok,
  (He.Fa.free "repr").ok,
  (He.Fa.free "str").ok,
  (He.Fa.free "super").ok,
  (He.Fa.str "HEX" "0123456789abcdef").ok,
  (He.Fa.str "ROW1" " etaonisrhld").ok,
  (He.Fa.str "ROW2" "cumfpgwybvkxjqz.").ok,
  (He.Fa.str "ROW3" "0123456789\n,'-!?").ok,
  (He.Fa.glo "SIZES").ok,
  (He.Fa.str "WORD_SIGNS" "abcdefghijklmnopqrstuvwxyz0123456789'-").ok,
  (He.Fa.glo "BadText").ok,
  (fun K => FxH.excB K "BadText"),
  (He.Fa.glo "BadVersion").ok,
  (fun K => FxH.excB K "BadVersion"),
  (He.Fa.glo "BadWord").ok,
  (fun K => FxH.excB K "BadWord"),
  (He.Fa.glo "FableError").ok,
  (He.Fa.glo "Version").ok,
  (He.Fa.cls "Version").ok,
  (He.Fa.noat "Version" "cut").ok,
  (He.Fa.noat "Version" "half").ok,
  (He.Fa.noat "Version" "link").ok,
  (He.Fa.noat "Version" "marks").ok,
  (He.Fa.noat "Version" "number").ok,
  (He.Fa.noat "Version" "scale").ok,
  (He.Fa.noat "Version" "width").ok,
  (fun K => decide (PySem.W.kitOne K (.ref (He.ga K "BadVersion")) (.type "ValueError") = some true)),
  (fun K => decide (PySem.W.kitOne K (.ref (He.ga K "BadVersion")) (.ref (He.ga K "BadText")) = some false)),
  (fun K => decide (PySem.W.kitOne K (.ref (He.ga K "BadVersion")) (.ref (He.ga K "BadVersion")) = some true)),
  (fun K => decide (PySem.W.kitOne K (.ref (He.ga K "BadVersion")) (.ref (He.ga K "BadWord")) = some false)),
  (fun K => decide (PySem.W.kitOne K (.ref (He.ga K "BadWord")) (.type "ValueError") = some true)),
  (fun K => decide (PySem.W.kitOne K (.ref (He.ga K "BadWord")) (.ref (He.ga K "BadText")) = some false)),
  (fun K => decide (PySem.W.kitOne K (.ref (He.ga K "BadWord")) (.ref (He.ga K "BadVersion")) = some false)),
  (fun K => decide (PySem.W.kitOne K (.ref (He.ga K "BadWord")) (.ref (He.ga K "BadWord")) = some true)),
  (fun K => decide (PySem.W.exmOne K (.ref (He.ga K "BadVersion")) (.ref (He.ga K "FableError")) = some true)),
  (fun K => decide (PySem.W.exmOne K (.ref (He.ga K "BadWord")) (.ref (He.ga K "FableError")) = some true)),
  (fun K => tupsB K "SIZES" sizes),
  (He.Fa.mkr "Version").ok,
  (He.Fa.glo "codes").ok,
  (He.Fa.glo "plain_codes").ok,
  (He.Fa.glo "is_integer").ok,
  (He.Fa.glo "is_word").ok,
  (He.Fa.glo "cut_form").ok,
  (He.Fa.glo "alike").ok,
  (He.Fa.glo "_law_bag").ok,
  (He.Fa.glo "_law_pick").ok,
  (He.Fa.glo "_law_codes").ok,
  (He.Fa.glo "_law_cut").ok,
  (He.Fa.glo "_law_typed").ok,
  (He.Fa.glo "_law_odd").ok,
  (He.Fa.glo "_law_cut_told").ok,
  (He.Fa.glo "_law_compared").ok,
  (He.Fa.glo "_law_two").ok,
  (He.Fa.glo "_law_refusals").ok,
  (He.Fa.glo "law").ok]
abbrev R : PySem.W.OpenRow := PySem.W.OpenLaw.row PySem.Challenge.rw_fablemill_k10_cut_forms
def file : Str := PySem.Challenge.pw_fablemill_k10_cut_forms.main.file
abbrev hk : PySem.W.Hook := FxH.hookX 6 file fa fn fi
def ob (s : PySem.W.SharedT) : FxH.AlX := FxH.obsXG 6 file fa fn fi (HandSHeadRun.getT s)
theorem ob_eq (s : PySem.W.SharedT) : ob s = hk.obs s.abs := FxH.obsXG_eq (HandSHeadRun.getT_eq s)
def loose : List PySem.Str := (["_wall", "FableError", "BadVersion", "BadText", "BadWord", "ROW1", "ROW2", "ROW3", "codes", "plain_codes", "SIZES", "is_integer", "Version", "WORD_SIGNS", "HEX", "is_word", "cut_form", "alike", "_law_bag", "_law_pick", "_law_codes", "_law_cut", "_law_typed", "_law_odd", "_law_cut_told", "_law_compared", "_law_two", "_law_refusals"] : List PySem.Str)
theorem run (w : World) : HandSHeadRun.RunEq R (PySem.W.view R.prog [33]) hk ob 4000 loose w := by
  intro os
  kernel_rfl
theorem facts {w : World} {K : PySem.W.Frag} {h : Heap} {mg : Str → Option Value} {f : Addr} (X : K.In h) (G : h.Ns mainGlobals mg) (hfa : mg ("law" : Str) = some (.ref f)) (c : FxH.SaysX file fa fn fi K) :
    ∃ fd : FuncData, (∀ (s : Shared) (v : Value), BindsTo s fd ⟨[v], []⟩ [("_law_script", v)]) ∧ ∀ base : Heap, K.In base → base.Ns mainGlobals mg → FnG PySem.Challenge.pw_fablemill_k10_cut_forms w K mg base CX0 9 f fd ["_law_script"] (spLaw K) := by
  have T : Tx PySem.Challenge.pw_fablemill_k10_cut_forms K mg := {
    b_ValueError := He.free_ok X G (c.fact 0),
    b_all := He.free_ok X G (c.fact 1),
    b_bool := He.free_ok X G (c.fact 2),
    b_int := He.free_ok X G (c.fact 3),
    b_isinstance := He.free_ok X G (c.fact 4),
    b_len := He.free_ok X G (c.fact 5),
    b_ord := He.free_ok X G (c.fact 6),
    b_range := He.free_ok X G (c.fact 7),
    b_repr := He.free_ok X G (c.fact 8),
    b_str := He.free_ok X G (c.fact 9),
    b_super := He.free_ok X G (c.fact 10),
    c_HEX := cst_str (He.str_ok X G (c.fact 11)),
    c_ROW1 := cst_str (He.str_ok X G (c.fact 12)),
    c_ROW2 := cst_str (He.str_ok X G (c.fact 13)),
    c_ROW3 := cst_str (He.str_ok X G (c.fact 14)),
    c_SIZES := cst_ref (He.glo_ok X G (c.fact 15)),
    c_WORD_SIGNS := cst_str (He.str_ok X G (c.fact 16)),
    g_BadText := He.glo_ok X G (c.fact 17),
    x_BadText := FxH.InD.xc (P := PySem.Challenge.pw_fablemill_k10_cut_forms) (d := d_BadText) (c.ini 0).1 (c.ini 0).2 (FOk.mk' (by decide +kernel) (by decide +kernel) (by decide +kernel) (by decide +kernel)) rfl rfl rfl rfl (bd_BadText) (by decide +kernel),
    e_BadText := FxH.excB_ok (c.fact 18),
    g_BadVersion := He.glo_ok X G (c.fact 19),
    x_BadVersion := FxH.InD.xc (P := PySem.Challenge.pw_fablemill_k10_cut_forms) (d := d_BadVersion) (c.ini 1).1 (c.ini 1).2 (FOk.mk' (by decide +kernel) (by decide +kernel) (by decide +kernel) (by decide +kernel)) rfl rfl rfl rfl (bd_BadVersion) (by decide +kernel),
    e_BadVersion := FxH.excB_ok (c.fact 20),
    g_BadWord := He.glo_ok X G (c.fact 21),
    x_BadWord := FxH.InD.xc (P := PySem.Challenge.pw_fablemill_k10_cut_forms) (d := d_BadWord) (c.ini 2).1 (c.ini 2).2 (FOk.mk' (by decide +kernel) (by decide +kernel) (by decide +kernel) (by decide +kernel)) rfl rfl rfl rfl (bd_BadWord) (by decide +kernel),
    e_BadWord := FxH.excB_ok (c.fact 22),
    g_FableError := He.glo_ok X G (c.fact 23),
    g_Version := He.glo_ok X G (c.fact 24),
    cl_Version := He.cls_ok (c.fact 25),
    n_Version_cut := He.noat_ok (c.fact 26),
    n_Version_half := He.noat_ok (c.fact 27),
    n_Version_link := He.noat_ok (c.fact 28),
    n_Version_marks := He.noat_ok (c.fact 29),
    n_Version_number := He.noat_ok (c.fact 30),
    n_Version_scale := He.noat_ok (c.fact 31),
    n_Version_width := He.noat_ok (c.fact 32),
    k_BadVersion_VE := of_decide_eq_true (c.fact 33),
    k_BadVersion_BadText := of_decide_eq_true (c.fact 34),
    k_BadVersion_BadVersion := of_decide_eq_true (c.fact 35),
    k_BadVersion_BadWord := of_decide_eq_true (c.fact 36),
    k_BadWord_VE := of_decide_eq_true (c.fact 37),
    k_BadWord_BadText := of_decide_eq_true (c.fact 38),
    k_BadWord_BadVersion := of_decide_eq_true (c.fact 39),
    k_BadWord_BadWord := of_decide_eq_true (c.fact 40),
    m_BadVersion := of_decide_eq_true (c.fact 41),
    m_BadWord := of_decide_eq_true (c.fact 42),
    t_SIZES := c.fact 43 }
  obtain ⟨fd0, F0⟩ := c.def_ 0 (d := d_f_Version_MU_initU) rfl
  obtain ⟨fd1, F1⟩ := c.def_ 1 (d := d_f_codes) rfl
  have S_codes : Src K mg "codes" s_codes := ⟨_, fd1, He.glo_ok X G (c.fact 45), F1⟩
  obtain ⟨fd2, F2⟩ := c.def_ 2 (d := d_f_plain_codes) rfl
  have S_plain_codes : Src K mg "plain_codes" s_plain_codes := ⟨_, fd2, He.glo_ok X G (c.fact 46), F2⟩
  obtain ⟨fd3, F3⟩ := c.def_ 3 (d := d_f_is_integer) rfl
  have S_is_integer : Src K mg "is_integer" s_is_integer := ⟨_, fd3, He.glo_ok X G (c.fact 47), F3⟩
  obtain ⟨fd4, F4⟩ := c.def_ 4 (d := d_f_is_word) rfl
  have S_is_word : Src K mg "is_word" s_is_word := ⟨_, fd4, He.glo_ok X G (c.fact 48), F4⟩
  obtain ⟨fd5, F5⟩ := c.def_ 5 (d := d_f_cut_form) rfl
  have S_cut_form : Src K mg "cut_form" s_cut_form := ⟨_, fd5, He.glo_ok X G (c.fact 49), F5⟩
  obtain ⟨fd6, F6⟩ := c.def_ 6 (d := d_f_alike) rfl
  have S_alike : Src K mg "alike" s_alike := ⟨_, fd6, He.glo_ok X G (c.fact 50), F6⟩
  obtain ⟨fd7, F7⟩ := c.def_ 7 (d := d_f__law_bag) rfl
  have S__law_bag : Src K mg "_law_bag" s__law_bag := ⟨_, fd7, He.glo_ok X G (c.fact 51), F7⟩
  obtain ⟨fd8, F8⟩ := c.def_ 8 (d := d_f__law_pick) rfl
  have S__law_pick : Src K mg "_law_pick" s__law_pick := ⟨_, fd8, He.glo_ok X G (c.fact 52), F8⟩
  obtain ⟨fd9, F9⟩ := c.def_ 9 (d := d_f__law_codes) rfl
  have S__law_codes : Src K mg "_law_codes" s__law_codes := ⟨_, fd9, He.glo_ok X G (c.fact 53), F9⟩
  obtain ⟨fd10, F10⟩ := c.def_ 10 (d := d_f__law_cut) rfl
  have S__law_cut : Src K mg "_law_cut" s__law_cut := ⟨_, fd10, He.glo_ok X G (c.fact 54), F10⟩
  obtain ⟨fd11, F11⟩ := c.def_ 11 (d := d_f__law_typed) rfl
  have S__law_typed : Src K mg "_law_typed" s__law_typed := ⟨_, fd11, He.glo_ok X G (c.fact 55), F11⟩
  obtain ⟨fd12, F12⟩ := c.def_ 12 (d := d_f__law_odd) rfl
  have S__law_odd : Src K mg "_law_odd" s__law_odd := ⟨_, fd12, He.glo_ok X G (c.fact 56), F12⟩
  obtain ⟨fd13, F13⟩ := c.def_ 13 (d := d_f__law_cut_told) rfl
  have S__law_cut_told : Src K mg "_law_cut_told" s__law_cut_told := ⟨_, fd13, He.glo_ok X G (c.fact 57), F13⟩
  obtain ⟨fd14, F14⟩ := c.def_ 14 (d := d_f__law_compared) rfl
  have S__law_compared : Src K mg "_law_compared" s__law_compared := ⟨_, fd14, He.glo_ok X G (c.fact 58), F14⟩
  obtain ⟨fd15, F15⟩ := c.def_ 15 (d := d_f__law_two) rfl
  have S__law_two : Src K mg "_law_two" s__law_two := ⟨_, fd15, He.glo_ok X G (c.fact 59), F15⟩
  obtain ⟨fd16, F16⟩ := c.def_ 16 (d := d_f__law_refusals) rfl
  have S__law_refusals : Src K mg "_law_refusals" s__law_refusals := ⟨_, fd16, He.glo_ok X G (c.fact 60), F16⟩
  obtain ⟨fd, F⟩ := c.def_ 17 (d := d_f_law) rfl
  have e := hfa.symm.trans (He.glo_ok X G (c.fact 61 (f := (He.Fa.glo "law").ok) rfl))
  cases e
  have b := FunD.bindsA (ps := ["_law_script"]) F fun _ _ _ _ _ _ us hl => match us, hl with | [_], _ => rfl
  refine ⟨fd, fun s v => b s [v] rfl, fun base hK hG => ?_⟩
  have C_is_integer : Cal PySem.Challenge.pw_fablemill_k10_cut_forms w K mg base CX0 1 "is_integer" ["thing", "low", "high"] spIsInt := ok_is_integer S_is_integer T 
  have C_Version_MU_initU : CalI PySem.Challenge.pw_fablemill_k10_cut_forms w K mg base (L2.CX PySem.Challenge.pw_fablemill_k10_cut_forms w) 3 (He.ga K "Version") ["self", "version"] (spVer K) := ok_Version_MU_initU F0 (He.mkr_ok (c.fact 44)) T C_is_integer
  have C_codes : Cal PySem.Challenge.pw_fablemill_k10_cut_forms w K mg base CX0 1 "codes" ["sign"] spCodes := ok_codes S_codes T 
  have C_plain_codes : Cal PySem.Challenge.pw_fablemill_k10_cut_forms w K mg base CX0 2 "plain_codes" ["text"] spPlain := ok_plain_codes S_plain_codes T C_codes
  have C_is_word : Cal PySem.Challenge.pw_fablemill_k10_cut_forms w K mg base CX0 1 "is_word" ["thing"] spIsWord := ok_is_word S_is_word T 
  have C_cut_form : Cal PySem.Challenge.pw_fablemill_k10_cut_forms w K mg base (L2.CX PySem.Challenge.pw_fablemill_k10_cut_forms w) 5 "cut_form" ["version", "word"] (spCutForm K) := ok_cut_form S_cut_form T C_Version_MU_initU C_is_word C_plain_codes
  have C_alike : Cal PySem.Challenge.pw_fablemill_k10_cut_forms w K mg base (L2.CX PySem.Challenge.pw_fablemill_k10_cut_forms w) 6 "alike" ["version", "first", "second"] (spAlike K) := ok_alike S_alike T C_cut_form
  have C__law_bag : Cal PySem.Challenge.pw_fablemill_k10_cut_forms w K mg base CX0 1 "_law_bag" ["_law_script"] (spBag K) := ok__law_bag S__law_bag T 
  have C__law_pick : Cal PySem.Challenge.pw_fablemill_k10_cut_forms w K mg base CX0 1 "_law_pick" ["_law_bag_here", "_law_many"] spPick := ok__law_pick S__law_pick T 
  have C__law_codes : Cal PySem.Challenge.pw_fablemill_k10_cut_forms w K mg base CX0 1 "_law_codes" ["_law_sign"] spLCodes := ok__law_codes S__law_codes T 
  have C__law_cut : Cal PySem.Challenge.pw_fablemill_k10_cut_forms w K mg base CX0 2 "_law_cut" ["_law_version", "_law_word"] spLCut := ok__law_cut S__law_cut T C__law_codes
  have C__law_typed : Cal PySem.Challenge.pw_fablemill_k10_cut_forms w K mg base CX0 2 "_law_typed" ["_law_bag_here", "_law_pool"] spTyped := ok__law_typed S__law_typed T C__law_pick
  have C__law_odd : Cal PySem.Challenge.pw_fablemill_k10_cut_forms w K mg base CX0 2 "_law_odd" ["_law_bag_here"] (spOdd K) := ok__law_odd S__law_odd T C__law_pick
  have C__law_cut_told : CalG PySem.Challenge.pw_fablemill_k10_cut_forms w K mg base CX0 6 "_law_cut_told" ["_law_number", "_law_word"] (spTold K) := ok__law_cut_told S__law_cut_told T C_cut_form
  have C__law_compared : CalG PySem.Challenge.pw_fablemill_k10_cut_forms w K mg base CX0 7 "_law_compared" ["_law_number", "_law_first", "_law_second"] (spComp K) := ok__law_compared S__law_compared T C_alike
  have C__law_two : CalG PySem.Challenge.pw_fablemill_k10_cut_forms w K mg base CX0 8 "_law_two" ["_law_number", "_law_first", "_law_second"] spTwo := ok__law_two S__law_two T C__law_cut C__law_compared
  have C__law_refusals : CalG PySem.Challenge.pw_fablemill_k10_cut_forms w K mg base CX0 8 "_law_refusals" ["_law_bag_here", "_law_number", "_law_word"] (spRef K) := ok__law_refusals S__law_refusals T C__law_odd C_is_word C__law_cut_told C__law_compared C__law_pick
  exact ok_law F T C__law_bag C__law_pick C__law_typed C_is_word C__law_cut_told C__law_cut C__law_two C__law_refusals
end K10
open PySem PySem.W PySem.Calls PyProof.Rows
theorem PySem.Challenge.cw_fablemill_k10_cut_forms_holds : PySem.Challenge.rw_fablemill_k10_cut_forms.Holds := by
  w_on; o_law
  refine HandSHeadRun.head_any (r := OpenLaw.row PySem.Challenge.rw_fablemill_k10_cut_forms) (q := view (OpenLaw.row PySem.Challenge.rw_fablemill_k10_cut_forms).prog [33]) (H := K10.hk) (ob := K10.ob) (M := 4000) (loose := K10.loose) (d := HandSHeadRun.topDef (OpenLaw.row PySem.Challenge.rw_fablemill_k10_cut_forms).prog 33) (kwd := []) K10.ob_eq
    (by kernel_rfl) (fun s => by kernel_rfl) K10.run (by kernel_rfl) (by kernel_rfl) (by kernel_rfl) (by rfl) (by first | assumption | decide +kernel) (by decide +kernel) ⟨rfl, rfl, rfl, rfl, rfl, by decide +kernel⟩ ?hw ?hc
  case hw => w_witness2
  case hc =>
    refine Fx.walk_ofG (l := PySem.Challenge.rw_fablemill_k10_cut_forms) (n := 63) (k := 9) (x := "_law_script") rfl (by decide) (by kernel_rfl) ⟨rfl, by decide, by decide⟩ ?F
    intro w mg fa h Y G hmg0
    obtain ⟨K, KX, c⟩ := Y
    have hmg : mg ("law" : PySem.Str) = some (.ref fa) := by
      have e : (HandSHeadRun.topDef (OpenLaw.row PySem.Challenge.rw_fablemill_k10_cut_forms).prog 33).name = ("law" : PySem.Str) := by kernel_rfl
      rw [← e]
      exact hmg0
    obtain ⟨fd, hb, hF⟩ := K10.facts (w := w) KX G hmg c
    exact ⟨K, fd, (K10.spLaw K), KX, hb, fun H a ns hl hS => ⟨a, ns, rfl, hS, Nat.le_trans hl (by decide), fun _ => rfl⟩, hF⟩
