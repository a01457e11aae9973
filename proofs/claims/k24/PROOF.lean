import PyProof.Rows.All
import Wide.All
import OpenK.AllK
import Wide.FinOn
import KE.KStateDown
import KE.KExcSuper
import Lean
import HandS.ForMost
import HandS.ForExc
import HandS.ExcInit
import HandS.ExcSuper
import HandS.ExcField
import HandS.ExcIs
import HandS.IsInst
import HandS.Defaults
import HandS.Replace
import HandS.ReplaceLit
import HandS.ReplaceDef
import HandS.Head0
import HandS.Head1
import HandS.Head2
import HandS.HeadEnd
import HandS.HeadHook1
import HandS.HeadHook2
import KE.GoesMore
import HandS.More
import HandS.TupAny
import HandS.Wide
import HandS.WideBits
import PySem.Challenge.RW_fablemill_k24_squeezed
set_option Elab.async false
set_option linter.all false
set_option maxRecDepth 100000
set_option maxHeartbeats 4000000
/-! Own errors of the shape: class C(FableError): def __init__(self, f): super().__init__('..'); self.f = f -/
namespace Fx
open PySem PySem.W PySem.Calls PyProof.Rows PySem.HandSPX
/-- the text of such an __init__ -/
def xA (f : Str) (p1 p2 : Pos) : Arguments := { posonlyargs := [], args := [{ arg := "self", annotation := none, pos := p1 }, { arg := f, annotation := none, pos := p2 }], vararg := none, kwonlyargs := [], kw_defaults := [], kwarg := none, defaults := [] }
def xB (f m : Str) (q1 q2 q3 q4 q5 q6 q7 q8 q9 q10 : Pos) : List Stmt :=
  [.Expr (.Call (.Attribute (.Call (.Name "super" q1) [] [] q2) "__init__" q3) [.Constant (.str m) 0 q4] [] q5) q6,
   .Assign [.Attribute (.Name "self" q7) f q8] (.Name f q9) q10]
def xS (f : Str) : Scope := { kind := .function, names := [(PySem.Str.ofString "self", .local), (f, .local), (PySem.Str.ofString "__class__", .free), (PySem.Str.ofString "super", .globalImplicit)], isGenerator := false, isCoroutine := false, more := [] }
/-- a field's name that does not clash -/
structure FOk (f : Str) : Prop where
  ns : f ≠ "self"
  nc : f ≠ "__class__"
  nu : f ≠ "super"
  nd : (f == ("__debug__" : Str)) = false
theorem FOk.mk' {f : Str} (h1 : decide (f ≠ "self") = true) (h2 : decide (f ≠ "__class__") = true) (h3 : decide (f ≠ "super") = true) (h4 : (f == ("__debug__" : Str)) = false) : FOk f :=
  ⟨of_decide_eq_true h1, of_decide_eq_true h2, of_decide_eq_true h3, h4⟩
/-- what the written part says of the class at C, its name x, its field f -/
structure XC (K : Frag) (P : Program) (x f : Str) (C : Addr) : Prop where
  fo : FOk f
  cls : ∃ nm q N bs bm sn sub ab col dd k0 k1 k2 k3 k5, K.lookup C = some (excClassObj nm q C N bs bm true sn sub ab col dd k0 k1 k2 k3 k5 "ValueError.__new__") ∧ refsVE bm = true ∧ alongIn K "__init__" bm = some (some (.builtin "ValueError.__init__"))
  sa : findIn K (.ref C) "__setattr__" = some (some (.builtin "object.__setattr__"))
  ga : findIn K (.ref C) "__getattribute__" = some (some (.builtin "BaseException.__getattribute__"))
  gg : findIn K (.ref C) "__getattr__" = some none
  noF : findIn K (.ref C) f = some none
  kC : keepIn K (.ref C) = true
  exC : subIn K (.ref C) (.type "BaseException") = some true
  veC : subIn K (.ref C) (.type "ValueError") = some true
  tyC : typeIn K (.ref C) = some (.type "type")
  hdC : hasDictIn K C = true
  op : nsIn K cStatics "thirdparty.any" = some none
  init : ∃ (fI : Addr), findIn K (.ref C) "__init__" = some (some (.ref fI)) ∧ typeIn K (.ref fI) = some (.type "function") ∧
    ∃ (qual m : Str) (oc : Value) (od : Option Addr) (kV doc pm : Value) (an : Option Addr) (cda cc : Addr) (ct : Value) (osl : Array (Option Value)) (p1 p2 q1 q2 q3 q4 q5 q6 q7 q8 q9 q10 : Pos)
      (ccl : Value) (cdd : Option Addr) (vs : Array Value) (ccs : Array (Option Value)) (tf : Tok) (cl : Value) (cld : Option Addr) (csl : Array (Option Value)),
      K.lookup fI = some ⟨oc, od, .func (ksFn "__init__" qual (xA f p1 p2) (xB f m q1 q2 q3 q4 q5 q6 q7 q8 q9 q10) (xS f) .none kV doc pm an (.ref cda) ct cc), osl⟩ ∧ codeIn K (.ref cda) qual = true ∧
      K.lookup cda = some ⟨ccl, cdd, .fields vs, ccs⟩ ∧ vs[2]? = some (.str (P.main.file : Str) tf) ∧ K.lookup cc = some ⟨cl, cld, .cell (some (.ref C)), csl⟩ ∧ (q3.endLine == q5.line) = true
  bd : ∀ (fd : FuncData) (p1 p2 : Pos), fd.params = xA f p1 p2 → fd.defaults = .none → ∀ (u1 u2 : Value), bindArgs fd ⟨[u1, u2], []⟩ = pure [(("self" : Str), u1), (f, u2)]
  top : (P.main.scope.names.lookup ("super" : Str)).isSome = false
section
variable {f : Str} (F : FOk f)
include F
theorem look_self : (xS f).names.lookup ("self" : Str) = some .local := by simp [xS, List.lookup]
theorem look_f : (xS f).names.lookup f = some .local := by
  have h1 : (f == PySem.Str.ofString "self") = false := by simpa using F.ns
  simp [xS, List.lookup, h1]
theorem look_cls : (xS f).names.lookup ("__class__" : Str) = some .free := by
  have h1 : (("__class__" : Str) == f) = false := by simpa using (Ne.symm F.nc)
  have h2 : (("__class__" : Str) == PySem.Str.ofString "self") = false := by decide
  simp [xS, List.lookup, h1, h2]
theorem look_sup : (xS f).names.lookup ("super" : Str) = some .globalImplicit := by
  have h1 : (("super" : Str) == f) = false := by simpa using (Ne.symm F.nu)
  have h2 : (("super" : Str) == PySem.Str.ofString "self") = false := by decide
  have h3 : (("super" : Str) == PySem.Str.ofString "__class__") = false := by decide
  simp [xS, List.lookup, h1, h2, h3]
end
section
variable {prog : Program} {w : World} {A : Around} {E : Value → Shared → Prop} {h : Heap} {g : Array GenState} {d : Drawn} {t : Nat} {os : OsState}
variable {nm q : Str} {C N : Addr} {bs bm : List Value} {hdct : Bool} {sn : List Str} {sub : List Value} {ab : Bool} {col : Option Bool} {dd : Option Addr} {k0 k1 k2 k3 k5 : Option Value}
theorem boot_super : bootBuiltins ("super" : Str) = some (.type "super") := by first | boot_by_name | kernel_rfl
/-- super().__init__(..) called -/
theorem call_mw {u e t0 : Addr} {rest : List Value} {Q : Value → Shared → Prop}
    (hC : h.get? C = some (excClassObj nm q C N bs bm hdct sn sub ab col dd k0 k1 k2 k3 k5 "ValueError.__new__")) (he : h.get? e = some (excO C t0)) (hu : h.get? u = some (kxs_mw "ValueError.__init__" e)) (hrest : rest.length ≤ sizeLine)
    (hq : ∀ h' t1, (∀ b o, b ≠ e → h.get? b = some o → h'.get? b = some o) → h'.get? e = some (excO C t1) → Q .none ⟨h', g, d, t, os⟩) :
    wpAny (model prog w) A (call (.ref u) rest) Q E ⟨h, g, d, t, os⟩ := by
  refine wpAny_call (codeAny_of_tree ?_)
  show wpAny _ A.in1 (callAny (.ref u) ⟨rest, []⟩) _ _ _
  simp only [callAny]
  refine wpAny_bind (wpAny_load hu ?_)
  simp only [kxs_mw, show (Value.type "method-wrapper" == Value.type "method" || Value.type "method-wrapper" == Value.type "builtin_function_or_method" || Value.type "method-wrapper" == Value.type "method-wrapper") = true by decide, if_true]
  refine KFB.if_so (by decide) ?_
  refine wpAny_bind (ESX.check_bound F.excBase_ValueError hC he rfl ?_)
  refine wpAny_bind (wpAny_pure (wpAny_pure ?_))
  refine ⟨Code.quiet_builtin _ (by decide +kernel), codeAny_builtin F.excBase_ValueError.initEntry ?_⟩
  rw [Around.under_plainId F.excBase_ValueError.init.plain _]
  wp_walk
  refine hq _ h.objs.size (fun b o hb ho => ?_) ?_
  · rw [Heap.get?_update_other _ _ (Ne.symm hb)]
    exact Heap.get?_push_of_some _ ho
  · rw [Heap.get?_update_self _ (Heap.get?_push_of_some _ he) rfl]
    rfl
end
theorem he_sup {env : Env} {m : Str} {q1 q2 q3 q4 q5 : Pos} (hp : (q3.endLine == q5.line) = true) :
    eval (.Call (.Attribute (.Call (.Name "super" q1) [] [] q2) "__init__" q3) [.Constant (.str m) 0 q4] [] q5) env = (do
      let ov ← attributeBase (.Call (.Name "super" q1) [] [] q2) "__init__" env (eval (.Call (.Name "super" q1) [] [] q2) env)
      standAt q3.atName
      let (f, first) ← holding [ov] (getMethod ov "__init__" (do return (← importBound (.Call (.Name "super" q1) [] [] q2) env).getD true))
      callWith q5 f first (backTo q5 (starEach [.Constant (.str m) 0 q4] env)) []) := by
  rw [arm_eval_Call]
  unfold methodCall methodCallPos
  simp only [hp, Bool.or_true, if_true]
  rfl
/-- what __init__ leaves of a fresh exception at x -/
structure InitEnd (h h' : Heap) (x C dx t1 : Addr) (f : Str) (v : Value) : Prop where
  keep : ∀ b o, b ≠ x → h.get? b = some o → h'.get? b = some o
  obj : h'.get? x = some { cls := .ref C, dict := some dx, data := .fields #[.ref t1, .none, .none, .none, .bool false, .none] }
  dbig : h.objs.size ≤ dx
  dne : dx ≠ x
  ns : h'.Ns1 dx (fun y => if y = f then some v else none)
/-- a made exception -/
structure OwnMade (h h' : Heap) (e C d : Addr) (f : Str) (v : Value) : Prop where
  keep : ∀ b o, h.get? b = some o → h'.get? b = some o
  new : h.objs.size ≤ e
  obj : ∃ oe vs, h'.get? e = some oe ∧ oe.cls = .ref C ∧ oe.dict = some d ∧ oe.data = .fields vs ∧ vs[1]? = some .none
  dbig : h.objs.size ≤ d
  dne : d ≠ e
  ns : h'.Ns1 d (fun y => if y = f then some v else none)
section
variable {prog : Program} {w : World} {A : Around} {E : Value → Shared → Prop} {R : Result → Shared → Prop} {s : Shared} {K : Frag} {mg mb : Str → Option Value} {x0 f : Str} {C : Addr}
theorem one_size (v : Value) : [v].length ≤ sizeLine := by
  rw [sizeLine_eq]
  exact (by decide : 1 ≤ 16777216)
theorem fx_init (T : XC K prog x0 f C) {fI : Addr} (hfI : findIn K (.ref C) "__init__" = some (some (.ref fI))) {x t0 : Addr} {v : Value} (X : K.In s.heap) (G : s.heap.Ns mainGlobals mg) (hsu : mg "super" = none) (B : s.heap.Ns builtinsNs mb) (hsb : mb "super" = bootBuiltins "super")
    (hlim : s.heap.NoLimit) (hx : s.heap.get? x = some (excO C t0)) (hnx : K.lookup x = none) (hroom : A.depth < recursionLimit)
    (hq : ∀ h' tk dx t1, InitEnd s.heap h' x C dx t1 f v → R (.ok (.ret .none)) { s with heap := h', toks := tk }) :
    codeAny (model prog w) A (.call (.ref fI) ⟨[.ref x, v], []⟩) R s := by
  obtain ⟨fI', e1, htI, qual, m, oc, od, kV, doc, pm, an, cda, cc, ct, osl, p1, p2, q1, q2, q3, q4, q5, q6, q7, q8, q9, q10, ccl, cdd, vs, ccs, tf, cl, cld, csl, ho, hcd, hcode, hvs, hcell, hps⟩ := T.init
  rw [hfI] at e1
  cases e1
  obtain ⟨nm, q, N, bs, bm, sn, sub, ab, col, dd, k0, k1, k2, k3, k5, hC, hbm, hal⟩ := T.cls
  have hcl : clsIn K C = some { name := nm, bases := bs, mro := .ref C :: bm, ns := N, qualname := q, hasDict := true, slotNames := sn, subclasses := sub, abstract := ab, collection := col, hasDel := false } := by unfold clsIn; rw [hC] <;> rfl
  refine ks_codeAny_call_defAt (fd := ksFn "__init__" qual (xA f p1 p2) (xB f m q1 q2 q3 q4 q5 q6 q7 q8 q9 q10) (xS f) .none kV doc pm an (.ref cda) ct cc) (body := xB f m q1 q2 q3 q4 q5 q6 q7 q8 q9 q10) (binds := [("self", .ref x), (f, v)]) hroom (X _ _ ho) rfl hlim (codeRec_of X hcd) rfl
    (BindsTo.of_eq (T.bd _ p1 p2 rfl rfl _ _)) ?_ ?_ (fun h₁ hns k => ?_)
  · intro y hy
    simp only [xS, List.mem_cons, List.not_mem_nil, or_false] at hy
    rcases hy with rfl | rfl | rfl | rfl <;> simp
  · intro y hy
    simp only [List.mem_cons, List.not_mem_nil, or_false] at hy
    rcases hy with rfl | rfl
    · exact look_self T.fo
    · exact look_f T.fo
  · have X1 : K.In h₁ := X.keeps k
    have hx1 := k _ _ hx
    have hC1 := X1 _ _ hC
    refine ks_wpAt_execs_cons (ks_wpAt_Expr_any (ks_wpAt_MethodCall ?_ (he_sup hps)))
    refine ks_wpAt_super_base (look_sup T.fo) (look_cls T.fo) (by decide) rfl (X1 _ _ ho) rfl rfl rfl (X1 _ _ hcode) rfl hvs (by simp) T.top ?_
    refine ks_loadName_global rfl (look_sup T.fo) (loadGlobal_builtin (G.keeps k) hsu (B.keeps k) (hsb.trans boot_super) ⟨rfl, ?_⟩)
    refine wpAny_loadName_free rfl (look_cls T.fo) rfl ⟨_, X1 _ _ hcell, rfl⟩ ?_
    refine wpAny_loadName_local rfl (look_self T.fo) hns (v := .ref x) ?_ ?_
    · have h1 : (("self" : Str) == f) = false := by simpa using (Ne.symm T.fo.ns)
      simp [List.lookup, h1]
    refine ks_wpAny_isType_cls hC1 rfl ⟨rfl, ?_⟩
    have hsub : mroIn K C (.ref C) = some true := by
      unfold mroIn
      rw [hcl]
      simp
    refine ks_wpAny_call_super hC1 rfl hx1 rfl (fun c e => by cases e) (looks_mroIn X1 hsub) (fun h2 hso k2 => ?_)
    have X2 : K.In h2 := X1.keeps k2
    have hx2 := k2 _ _ hx1
    have hxC : x ≠ C := fun e => by
      rw [e, hC1] at hx1
      cases hx1
    have I2 : InstAt h2 x (excO C t0) C none := ⟨hx2, rfl, rfl, trivial⟩
    refine kxs_getMethod kxs_ValueError hso (looks_opaque X2 T.op) (l₀ := .ref C :: bm) ?_ (ESX.drop_own C bm) X2 hal (I2.type.andThen (looks_subIn X2 T.veC)) hxC (by decide) ?_
    · exact fun A Q E s k q => wpAny_bind ((looks_clsIn X2 hcl) A _ E s k (wpAny_pure q))
    have kp : ∀ b o, h2.get? b = some o → (h2.push (kxs_mw "ValueError.__init__" x)).get? b = some o := fun b o e => Heap.get?_push_of_some _ e
    have hu : (h2.push (kxs_mw "ValueError.__init__" x)).get? h2.objs.size = some (kxs_mw "ValueError.__init__" x) := Heap.get?_push_at rfl rfl
    refine kxs_callWith (i := "ValueError.__init__") (x := x) rfl (evalArgs_plain (spliced_cons (Constant_str (k := 0) (pos := q4) (spliced_nil ⟨hu, ?_⟩))))
    refine call_mw (kp _ _ (X2 _ _ hC)) (kp _ _ hx2) hu (one_size _) (fun h3 t1 k3 hx3 => ?_)
    have kk : ∀ b o, b ≠ x → h₁.get? b = some o → h3.get? b = some o := fun b o hb e => k3 b o hb (kp _ _ (k2 _ _ e))
    have X3 : K.In h3 := fun a o e => kk a o (fun z => by rw [z, hnx] at e; cases e) (X1 a o e)
    have nL : s.heap.objs.size ≠ x := Nat.ne_of_gt (Heap.lt_size hx)
    have hns3 : h3.Ns s.heap.objs.size (fun y => [(("self" : Str), Value.ref x), (f, v)].reverse.lookup y) := by
      obtain ⟨oL, es, ep, hL, r⟩ := hns
      exact ⟨oL, es, ep, kk _ _ nL hL, r⟩
    have hfs : (f == ("self" : Str)) = false := by simpa using T.fo.ns
    have hsf : (("self" : Str) == f) = false := by simpa using (Ne.symm T.fo.ns)
    show PySem.wpAt _ _ _ (execs _ _) _ _ _
    refine ks_wpAt_execs_cons (ks_wpAt_Assign_Attr (PySem.wpAt_of_wpAny ?_))
    refine wpAny_Name (wpAny_loadName_local rfl (look_f T.fo) hns3 (v := v) (by simp [List.lookup]) ?_) T.fo.nd
    refine wpAny_Name (wpAny_loadName_local rfl (look_self T.fo) hns3 (v := .ref x) (by simp [List.lookup, hsf]) ?_) (by decide)
    refine set_plain X3 (ox := excO C t1) (od := none) ⟨hx3, rfl, rfl, trivial⟩ T.sa ?_
    refine exc_osa X3 hx3 hcl (show refsVE (.ref C :: bm) = true from hbm) rfl T.noF (fun h4 tk4 dx k4 dn dne hx4 hn4 => ?_)
    show PySem.wpAt _ _ _ (execs _ _) _ _ _
    refine PySem.wpAt_of_wpAny (wpAny_execs_nil (hq h4 tk4 dx t1 ⟨fun b o hb e => k4 b o hb (kk b o hb (k b o e)), hx4, ?_, dne, hn4⟩))
    exact Nat.le_of_lt (Nat.lt_of_lt_of_le (show s.heap.objs.size < h3.objs.size from hns3.lt) dn)
theorem fx_made (T : XC K prog x0 f C) {v : Value} (X : K.In s.heap) (G : s.heap.Ns mainGlobals mg) (hsu : mg "super" = none) (B : s.heap.Ns builtinsNs mb) (hsb : mb "super" = bootBuiltins "super") (hlim : s.heap.NoLimit) (hroom : A.depth + 1 < recursionLimit)
    (hq : ∀ h' tk e d, OwnMade s.heap h' e C d f v → R (.ok (.ret (.ref e))) { s with heap := h', toks := tk }) :
    codeAny (model prog w) A (.call (.ref C) ⟨[v], []⟩) R s := by
  obtain ⟨fI, hfI, htI, _⟩ := T.init
  obtain ⟨nm, q, N, bs, bm, sn, sub, ab, col, dd, k0, k1, k2, k3, k5, hC, hbm, hal⟩ := T.cls
  obtain ⟨hp, g, dr, tk, os⟩ := s
  have k : ∀ b o, hp.get? b = some o → ((hp.push (kdv_tup [v])).push (excO C hp.objs.size)).get? b = some o := fun b o e => Heap.get?_push_of_some _ (Heap.get?_push_of_some _ e)
  have hget : ((hp.push (kdv_tup [v])).push (excO C hp.objs.size)).get? (hp.objs.size + 1) = some (excO C hp.objs.size) := by heap_get
  have hnx : K.lookup (hp.objs.size + 1) = none := by
    cases e : K.lookup (hp.objs.size + 1) with
    | none => rfl
    | some o =>
      have z : hp.get? (hp.objs.size + 1) = some o := X _ _ e
      exact absurd (Nat.lt_of_succ_lt (Heap.lt_size z)) (Nat.lt_irrefl _)
  refine call_own F.excBase_ValueError (fun X => refsVE_contains X bm hbm) (X _ _ hC) (looks_findIn X hfI) (fun self => bind_fn X self htI) (one_size v) ?_
  refine fx_init (s := ⟨(hp.push (kdv_tup [v])).push (excO C hp.objs.size), g, dr, tk, os⟩) T hfI (X.keeps k) (G.keeps k) hsu (B.keeps k) hsb (hlim.keeps k) hget hnx ?_ fun h' tk' dx t1 ⟨k', hx, dn, dne, hns⟩ => ?_
  · show A.depth + 1 < recursionLimit
    exact hroom
  · have old : ∀ b o, hp.get? b = some o → h'.get? b = some o := fun b o e => k' b o (Nat.ne_of_lt (Nat.lt_succ_of_lt (Heap.lt_size e))) (k b o e)
    have z : hp.objs.size + 1 + 1 ≤ dx := by
      first
        | (simpa only [Heap.size_push] using dn)
        | exact dn
        | (have q := dn; rw [Heap.size_push, Heap.size_push] at q; exact q)
    exact ⟨rfl, hq h' tk' (hp.objs.size + 1) dx ⟨old, Nat.le_succ _, ⟨_, _, hx, rfl, rfl, rfl, rfl⟩, Nat.le_trans (Nat.le_trans (Nat.le_succ _) (Nat.le_succ _)) z, dne, hns⟩⟩
end
end Fx
namespace Fx
open PySem PySem.Spec PyProof.Rows L2
theorem relO_fx {f : Str} {v : V} {v' : Value} (r : RelV v v') (y : Str) : RelO (List.lookup y [(f, v)]) (if y = f then some v' else none) := by
  by_cases hw : y = f
  · subst hw
    rw [if_pos rfl]
    have q : List.lookup y [(y, v)] = some v := by simp [List.lookup]
    rw [q]
    exact r
  · rw [if_neg hw]
    have qw : (y == f) = false := by simpa using hw
    have q2 : List.lookup y [(f, v)] = none := by simp [List.lookup, qw]
    rw [q2]
    trivial
section
variable {X : Cx} {C : Addr} {x0 f : Str}
/-- C(e) -/
def tMkFx (C : Addr) (f : Str) (ta : TA) : L2.St → Hp → XK → Prop := fun σ H Q => ta σ H fun vs H1 => ∃ v, vs = [v] ∧ ∀ d, H1 d = none → Q (.ref C) (some d) (upd H1 d (.xd [(f, v)]))
theorem pmk_fx {a : Expr} {ta : TA} {p pos : Pos} {k : Nat} (T : XC X.K X.prog x0 f C) (gC : X.mg x0 = some (.ref C)) (hsu : X.mg "super" = none) (hr : Room k X.A) (ha : PA X [a] ta) (hg : Gl X x0 := by rfl) (hdb : (x0 == ("__debug__" : Str)) = false := by decide)
    (he : starEach (a :: []) X.env = (false, eval a X.env) :: starEach [] X.env := by rfl) (hpl : (backTo pos (starEach [] X.env)).any (·.1) = false := by rfl) :
    PMk X (.Call (.Name x0 p) [a] [] pos) (tMkFx C f ta) := by
  intro pins s σ H Q I h
  refine wpAny_Call_Name_kw (ld_glob I hg gC ?_ hdb)
  refine PySem.W.callWith_K (h₀ := X.base) I.ok.mod.kin T.kC (thn (ha.run pos pins s σ H _ I h) fun us s1 hh => ?_) he hpl
  obtain ⟨vs, H1, I1, r1, v, ev, q1⟩ := hh
  subst ev
  refine ⟨I1.kIn, ?_⟩
  cases r1 with
  | cons rv rn =>
    rename_i v' us'
    cases rn
    show wpAny _ _ (call (.ref C) [v']) _ _ _
    have hlim := I1.nolimit
    obtain ⟨mb, hb1, hb2⟩ := I1.mod.blt
    have G := I1.mod.glob.keeps I1.bk
    have B := hb1.keeps I1.bk
    obtain ⟨hp, g, dr, tk, os⟩ := s1
    refine wpAny_call (fx_made T I1.kIn G hsu B (hb2 _ (by decide)) hlim (by have := hr.dp; omega) fun h' tk' e d M => ?_)
    show MkP X pins σ Q (.ref e) ⟨h', g, dr, tk', os⟩
    obtain ⟨oe, fv, hoe, hc, hd, hdat, h1⟩ := M.obj
    have hns := M.ns
    obtain ⟨G', g1, g2⟩ := restrict h' fun b => decide (b ≠ e)
    have gk : ∀ b, b ≠ e → G'.get? b = h'.get? b := fun b hb => g1 b (decide_eq_true hb)
    have ge : G'.get? e = none := g2 e (by simp)
    have old : ∀ b o, hp.get? b = some o → G'.get? b = some o := fun b o q => (gk b (Nat.ne_of_lt (Nat.lt_of_lt_of_le (Heap.lt_size q) M.new))).trans (M.keep b o q)
    have ob : ObjOk X.prog X.w (upd H1 d (.xd [(f, v)])) G' d (.xd [(f, v)]) :=
      ⟨_, hns.at (fun o q => (gk d M.dne).trans q), fun y => relO_fx rv y⟩
    have J : Inv X pins σ (upd H1 d (.xd [(f, v)])) ⟨G', g, dr, tk', os⟩ := I1.laid (t' := tk') old M.dbig ob
    refine ⟨e, oe, fv, ⟨G', g, dr, tk', os⟩, _, .ref C, some d, rfl, J, fun b o q => ?_, ge, hoe, ⟨hc, hd⟩, hdat, h1, ?_, rfl, I1.bare, raises_own T.exC T.tyC, q1 d (I1.hok.fresh M.dbig)⟩
    · by_cases hb : b = e
      · have q' : G'.get? b = some o := q
        rw [hb, ge] at q'; cases q'
      · exact (gk b hb).symm.trans q
    · rw [upd_ne (Ne.symm M.dne)]
      exact I1.hok.fresh M.new
/-- raise C(e) -/
def tRaiseFx (C : Addr) (f : Str) (W : WX) (ta : TA) : TS := fun _ σ H => tMkFx C f ta σ H fun cls d H' => W cls d σ H'
theorem ps_raiseFx {a : Expr} {ta : TA} {W : WX} {p pos pos2 : Pos} {k : Nat} (hc : X.calm = true) (T : XC X.K X.prog x0 f C) (gC : X.mg x0 = some (.ref C)) (hsu : X.mg "super" = none) (hr : Room k X.A) (tk : Takes X W) (ha : PA X [a] ta) (hg : Gl X x0 := by rfl) (hdb : (x0 == ("__debug__" : Str)) = false := by decide)
    (he : starEach (a :: []) X.env = (false, eval a X.env) :: starEach [] X.env := by rfl) (hpl : (backTo pos (starEach [] X.env)).any (·.1) = false := by rfl) :
    PS X (.Raise (some (.Call (.Name x0 p) [a] [] pos)) none pos2) (tRaiseFx C f W ta) := ps_raise hc tk (pmk_fx T gC hsu hr ha hg hdb he hpl)
/-- e.f, e the exception that the suite holds -/
theorem XC.xf (T : XC X.K X.prog x0 f C) : XfC X.K C := ⟨T.ga, T.gg, T.exC, T.hdC⟩
end
end Fx
namespace PySem.W
open PySem PySem.Spec PySem.Calls PyProof.Rows
section
variable {prog : Program} {w : World} {A : Around} {E : Value → Shared → Prop} {s : Shared} {K : Frag} {x D : Addr} {ox : Obj} {od : Option Obj}
theorem fx_findObj {C : Addr} {name : Str} {a g : Value} (hc : (clsIn K C).isSome = true) (ha : findIn K (.ref C) name = some (some a)) (hg : specialIn K a "__get__" = some (some g)) (ht : takesIn K a = some true) : findObj K C od name = some (.bind g a) := by
  obtain ⟨cd, hc⟩ := Option.isSome_iff_exists.mp hc
  unfold findObj
  rw [hc, Option.bind_some, ha, Option.bind_some]
  simp [hg, ht]
theorem fx_class {Q : Option Value → Shared → Prop} (hga : findIn K (.ref D) "__getattribute__" = some (some (.builtin "BaseException.__getattribute__"))) (hgt : findIn K (.ref D) "__getattr__" = some none) (hsub : subIn K (.ref D) (.type "BaseException") = some true)
    (hdct : hasDictIn K D = true) (ha : findIn K (.ref D) "__class__" = some (some (.builtin "object.__class__")))
    (hn : specialIn K (.builtin "object.__class__") "__get__" = some (some (.builtin "getset_descriptor.__get__"))) (htk : takesIn K (.builtin "object.__class__") = some true) (hm : mroIn K D (.type "object") = some true)
    (X : K.In s.heap) (I : InstAt s.heap x ox D od) (h : Q (some (.ref D)) { s with toks := s.toks + 1 }) : wpAny (model prog w) A (getAttr? (.ref x) "__class__") Q E s := by
  have hf : findObj K D od "__class__" = some (.bind (.builtin "getset_descriptor.__get__") (.builtin "object.__class__")) := fx_findObj (by obtain ⟨cd, hc, _⟩ := any_some hdct; rw [hc]; rfl) ha hn htk
  obtain ⟨hp, g, d, t, os⟩ := s
  have L0 := I.type (M := model prog w)
  have L1 := looks_findIn (M := model prog w) X hga
  have L2 := looks_findIn (M := model prog w) X hgt
  have L3 := looks_find (M := model prog w) X I hf
  have sub : Looks (model prog w) hp (isInstance (.ref x) (.type "BaseException")) true := L0.andThen (looks_subIn X hsub)
  have hx0 : (false && onTheHeap (Value.builtin "BaseException.__getattribute__")) = false := rfl
  have hx2 : (Value.builtin "BaseException.__getattribute__" == Value.builtin "object.__getattribute__") = false := by decide +kernel
  have hx1 : (onTheHeap (Value.ref D) && Value.builtin "BaseException.__getattribute__" == Value.builtin "object.__getattribute__") = false := by rw [hx2]; rfl
  unfold getAttr? getAttrBy? getAttrBy
  refine wpAny_bind (wpAny_mkText (wpAny_bind (wpAny_attempt (wpAny_holding (wpAny_bind (L0.at (wpAny_bind (L1.at ?_))))))))
  show wpAny _ _ (if (onTheHeap (Value.ref D) && Value.builtin "BaseException.__getattribute__" == Value.builtin "object.__getattribute__") = true then _ else _) _ _ _
  rw [hx1, if_neg Bool.false_ne_true]
  unfold getAttrByItsOwn hookBefore
  refine wpAny_bind ?_
  rw [if_pos (show onTheHeap (Value.ref D) = true from rfl)]
  refine L2.at ?_
  refine wpAny_bind (wpAny_attempt (wpAny_holding ?_))
  unfold callGetattribute
  rw [hx0, if_neg Bool.false_ne_true]
  unfold boundAndCalled
  rw [PySem.F.excAttr_ValueError.ga.bind (.ref x)]
  refine wpAny_bind (wpAny_pure ?_)
  show wpAny _ _ (call (.builtin "BaseException.__getattribute__") [.ref x, .str "__class__" t]) _ _ _
  refine wpAny_call (codeAny_call_builtin PySem.F.excAttr_ValueError.ga.plain PySem.F.entry_bexc_ga ?_)
  refine @check_slot (model prog w) _ _ ⟨hp, g, d, t + 1, os⟩ "BaseException.__getattribute__" "BaseException" "__getattribute__" (.ref x) [.str "__class__" t] [] _ (by decide +kernel) (by decide +kernel) sub (PySem.F.args_bexc_ga (.ref x) (.str "__class__" t)) ?_
  unfold Builtin.«object.__getattribute__»
  refine wpAny_bind (wpAny_of_eq (a := ((Value.ref x : Value), [Value.str "__class__" t])) (by first | rfl | (simp only [slotArgs]; rfl)) ?_)
  refine wpAny_bind (wpAny_pure (wpAny_bind (L0.at (wpAny_bind (L3.at ?_)))))
  show wpAny _ _ (holding [Value.builtin "object.__class__"] (call (.builtin "getset_descriptor.__get__") [.builtin "object.__class__", .ref x, .ref D]) >>= ret) _ _ _
  refine wpAny_bind (wpAny_holding (wpAny_call (class_get (s := ⟨hp, g, d, t + 1, os⟩) (ox := ox) (od := od) X I hm ?_)))
  refine wpAny_pure ?_
  show wpAny _ _ (handedOut (.ref D)) _ _ _
  rw [handedOut_of (v := .ref D) rfl]
  first
    | exact wpAny_pure (wpAny_pure h)
    | exact wpAny_pure h
    | exact wpAny_pure (wpAny_bind (wpAny_pure (wpAny_pure h)))
theorem fx_kitx (hga : findIn K (.ref D) "__getattribute__" = some (some (.builtin "BaseException.__getattribute__"))) (hgt : findIn K (.ref D) "__getattr__" = some none) (hsub : subIn K (.ref D) (.type "BaseException") = some true) (hdct : hasDictIn K D = true) (ha : findIn K (.ref D) "__class__" = some (some (.builtin "object.__class__")))
    (hn : specialIn K (.builtin "object.__class__") "__get__" = some (some (.builtin "getset_descriptor.__get__"))) (htk : takesIn K (.builtin "object.__class__") = some true) (hm : mroIn K D (.type "object") = some true) :
    KitX K (.ref x) (.ref D) (fun h => ∃ od, InstAt h x ox D od) where
  ty := fun _ _ _ ⟨_, I⟩ => I.type
  it := fun _ _ X _ => by
    obtain ⟨cdD, hcD, _⟩ := any_some hdct
    unfold clsIn at hcD
    split at hcD
    · rename_i c' d' cd' sl' ho
      intro A' Q' E' s' k q
      unfold isType loadHead
      exact wpAny_bind (wpAny_loadPart (k _ _ (X _ _ ho)) (wpAny_pure q))
    · cases hcD
  ne := fun h tp dd its n sl X htp => by
    obtain ⟨cdD, hcD, _⟩ := any_some hdct
    refine Bool.eq_false_iff.mpr fun q => ?_
    have e : D = tp := Value.ref.inj (beq_iff_eq.mp q)
    subst e
    unfold clsIn at hcD
    split at hcD
    · rename_i c' d' cd' sl' ho
      have z := (X _ _ ho).symm.trans htp
      cases z
    · cases hcD
  ca := fun X ⟨_, I⟩ k => fx_class hga hgt hsub hdct ha hn htk hm X I k
end
end PySem.W
namespace Fx
open PySem PySem.Spec PyProof.Rows L2
/-- isinstance(e, c), e the exception that the suite holds, with its dict -/
theorem call_isX {X : Cx} {a D dd : Addr} {oe : Obj} {pn : List (Addr × Obj)} {fs : List (Str × V)} (C : ExcC X.K D) (hz : Zc (.ref D) (some dd) oe) (hf : ∃ vs, oe.data = .fields vs) :
    CallR (X.suite a ((a, oe) :: pn)) (.builtin "isinstance") (fun xs H Q => H dd = some (.xd fs) ∧ rIsE X.K D a xs H Q) := by
  intro pins s σ H xs us Q I r h
  obtain ⟨hdd, c, cv, b, rfl, hcv, e, q⟩ := h
  cases r with
  | cons rx rr =>
    cases rr with
    | cons rt rr =>
      cases rr
      cases rx
      have ec := hcv _ rt
      subst ec
      obtain ⟨hget, _⟩ := I.pin (a, oe) (List.mem_append.mpr (.inl List.mem_cons_self))
      obtain ⟨vs, hv⟩ := hf
      have hx : ObjOk X.prog X.w H s.heap dd (.xd fs) := I.hok dd _ hdd
      obtain ⟨mA, ⟨od, es, ep, ho, hrest⟩, hr⟩ := hx
      have J : PySem.W.InstAt s.heap a oe D (some od) := ⟨hget, hz.1, by unfold PySem.W.notCls; rw [hv] <;> rfl, by rw [hz.2]; exact ho⟩
      exact PySem.W.kia_one (PySem.W.fx_kitx C.hg C.hk C.hs C.hd C.ha C.hn C.ht C.hm) I.kIn ⟨_, J⟩ e (fun z => nomatch z) fun tk => ⟨.bl b, H, I.kept (t' := tk) fun _ _ z => z, rfl, q⟩
end Fx
namespace Fx
open PySem PySem.Spec PyProof.Rows L2
def clsVal : V → Option Value
  | .ref C => some (.ref C)
  | .ty n => some (.type n)
  | _ => none
/-- isinstance(e, c) in an except suite, e the exception that it holds: its class cls, its dict d -/
def rIsY (K : PySem.W.Frag) (a : Addr) (cls : Value) (d : Option Addr) : List V → Hp → VK → Prop := fun xs H Q => ∃ c, xs = [.ref a, c] ∧ ∃ D, cls = .ref D ∧ ∃ dd, d = some dd ∧ (∃ fs, H dd = some (.xd fs)) ∧ ExcC K D ∧ ∃ cv, clsVal c = some cv ∧ ∃ b, PySem.W.kitOne K (.ref D) cv = some b ∧ Q (.bl b) H
theorem call_isY {X : Cx} {a : Addr} {oe : Obj} {cls : Value} {d : Option Addr} {pn : List (Addr × Obj)} (hz : Zc cls d oe) (hf : ∃ vs, oe.data = .fields vs) :
    CallR (X.suite a ((a, oe) :: pn)) (.builtin "isinstance") (rIsY X.K a cls d) := by
  intro pins s σ H xs us Q I r h
  obtain ⟨c, e1, D, e2, dd, e3, ⟨fs, hfs⟩, C, cv, hcv, b, hb, q⟩ := h
  subst e1 e2 e3
  refine call_isX (fs := fs) C hz hf pins s σ H _ us Q I r ⟨hfs, c, cv, b, rfl, fun u ru => ?_, hb, q⟩
  cases c with
  | ref C2 => cases hcv; exact ru
  | ty n => cases hcv; exact ru
  | _ => cases hcv
theorem XC.xfc {K : PySem.W.Frag} {P : Program} {x f : Str} {C : Addr} (T : XC K P x f C) : XfC K C := ⟨T.ga, T.gg, T.exC, T.hdC⟩
end Fx
/-! The head's facts: defs, errors' classes, any further facts as tests of the written part -/
namespace FxH
open PySem PySem.Spec PyProof.Rows L2 He
def asR (g : Addr → Option Obj) : Nat → List Addr
  | 0 => [mainGlobals, cStatics]
  | n + 1 => growD g (asR g n)
abbrev Fct := PySem.W.Frag → Bool
/-- an error's class: its name, its field, its __init__ -/
structure InD where
  x : Str
  f : Str
  qual : Str
  st : Stmt
abbrev FnX : Type := Option (Str × Str × Arguments × FuncBody × Scope × Addr × List Str × Value × Addr)
def fnXo (K : PySem.W.Frag) (x : Str) : FnX := match K.lookup (ma K (ga K x) "__init__") with
  | some ⟨_, _, .func fd, _⟩ => some (fd.name, fd.qualname, fd.params, fd.body, fd.scope, fd.globals, fd.closure.map (·.1), fd.defaults, fd.builtins)
  | _ => none
def InD.val (d : InD) : FnX := some ("__init__", d.qual, defArgs d.st, .stmts (defBody d.st), defScope d.st, mainGlobals, ["__class__"], .none, builtinsNs)
def clsB (K : PySem.W.Frag) (C : Addr) : Bool := match K.lookup C with
  | some ⟨.type "type", _, .cls cd, sl⟩ => (match cd.mro, sl.toList with
    | .ref C' :: bm, [_, _, _, _, some (.builtin n), _] => C' == C && (n == "ValueError.__new__" && (!cd.hasDel && (cd.hasDict && (PySem.HandSPX.refsVE bm && decide (PySem.W.alongIn K "__init__" bm = some (some (.builtin "ValueError.__init__")))))))
    | _, _ => false)
  | _ => false
theorem clsB_ok {K : PySem.W.Frag} {C : Addr} (q : clsB K C = true) : ∃ nm q N bs bm sn sub ab col dd k0 k1 k2 k3 k5, K.lookup C = some (excClassObj nm q C N bs bm true sn sub ab col dd k0 k1 k2 k3 k5 "ValueError.__new__") ∧ PySem.HandSPX.refsVE bm = true ∧ PySem.W.alongIn K "__init__" bm = some (some (.builtin "ValueError.__init__")) := by
  unfold clsB at q
  split at q
  · rename_i dd cd sl ho
    split at q
    · rename_i C' bm k0 k1 k2 k3 n k5 hm hs
      simp only [Bool.and_eq_true, beq_iff_eq, Bool.not_eq_true', decide_eq_true_eq] at q
      obtain ⟨rfl, rfl, hdel, hdct, ht, hal⟩ := q
      obtain ⟨nm, bs, mro, ns, qn, hd, sn, sub, ab, col, del⟩ := cd
      dsimp only at hm hdel hdct
      subst hm hdel hdct
      have hsl : sl = #[k0, k1, k2, k3, some (.builtin "ValueError.__new__"), k5] := by
        obtain ⟨l⟩ := sl
        simp only at hs
        rw [hs]
      subst hsl
      exact ⟨nm, qn, ns, bs, bm, sn, sub, ab, col, dd, k0, k1, k2, k3, k5, ho, ht, hal⟩
    · cases q
  · cases q
/-- the cell and the code of the __init__ -/
def iniB (K : PySem.W.Frag) (C fI : Addr) (qual file : Str) : Bool := match K.lookup fI with
  | some ⟨_, _, .func fd, _⟩ => (match fd.closure, fd.code with
    | [(_, cc)], .ref cda => PySem.W.codeIn K (.ref cda) qual && ((match K.lookup cda with
        | some ⟨_, _, .fields vs, _⟩ => (match (vs[2]? : Option Value) with
          | some (Value.str n _) => decide (n = file)
          | _ => false)
        | _ => false) && (match K.lookup cc with
        | some ⟨_, _, .cell (some (.ref D)), _⟩ => decide (D = C)
        | _ => false))
    | _, _ => false)
  | _ => false
def InD.ok (file : Str) (K : PySem.W.Frag) (d : InD) : Bool :=
  let C := ga K d.x
  let fI := ma K C "__init__"
  eqO (PySem.W.nsIn K mainGlobals d.x) (some (some (.ref C))) && (clsB K C && (eqO (PySem.W.findIn K (.ref C) "__setattr__") (some (some (.builtin "object.__setattr__"))) &&
  (eqO (PySem.W.findIn K (.ref C) "__getattribute__") (some (some (.builtin "BaseException.__getattribute__"))) && (eqO (PySem.W.findIn K (.ref C) "__getattr__") (some none) && (eqO (PySem.W.findIn K (.ref C) d.f) (some none) &&
  (PySem.W.keepIn K (.ref C) && (decide (PySem.W.subIn K (.ref C) (.type "BaseException") = some true) && (decide (PySem.W.subIn K (.ref C) (.type "ValueError") = some true) && (decide (PySem.W.typeIn K (.ref C) = some (.type "type")) &&
  (PySem.W.hasDictIn K C && (eqO (PySem.W.nsIn K cStatics "thirdparty.any") (some none) && (eqO (PySem.W.findIn K (.ref C) "__init__") (some (some (.ref fI))) && (decide (PySem.W.typeIn K (.ref fI) = some (.type "function")) && iniB K C fI d.qual file)))))))))))))
/-- what isinstance asks of an error's class -/
def excB (K : PySem.W.Frag) (x : Str) : Bool :=
  let C := ga K x
  eqO (PySem.W.findIn K (.ref C) "__getattribute__") (some (some (.builtin "BaseException.__getattribute__"))) && (eqO (PySem.W.findIn K (.ref C) "__getattr__") (some none) && (decide (PySem.W.subIn K (.ref C) (.type "BaseException") = some true) &&
  (PySem.W.hasDictIn K C && (eqO (PySem.W.findIn K (.ref C) "__class__") (some (some (.builtin "object.__class__"))) && (eqO (PySem.W.specialIn K (.builtin "object.__class__") "__get__") (some (some (.builtin "getset_descriptor.__get__"))) &&
  (decide (PySem.W.takesIn K (.builtin "object.__class__") = some true) && decide (PySem.W.mroIn K C (.type "object") = some true)))))))
theorem excB_ok {K : PySem.W.Frag} {x : Str} (h : excB K x = true) : ExcC K (ga K x) := by
  obtain ⟨h1, h⟩ := ba h
  obtain ⟨h2, h⟩ := ba h
  obtain ⟨h3, h⟩ := ba h
  obtain ⟨h4, h⟩ := ba h
  obtain ⟨h5, h⟩ := ba h
  obtain ⟨h6, h⟩ := ba h
  obtain ⟨h7, h8⟩ := ba h
  exact ⟨eqO_ok h1, eqO_ok h2, of_decide_eq_true h3, h4, eqO_ok h5, eqO_ok h6, of_decide_eq_true h7, of_decide_eq_true h8⟩
/-- the class's facts, from the hook -/
theorem InD.xc {P : Program} {K : PySem.W.Frag} {d : InD} {m : Str} {p1 p2 q1 q2 q3 q4 q5 q6 q7 q8 q9 q10 : Pos} (e : fnXo K d.x = d.val) (c : d.ok (P.main.file : Str) K = true) (fo : Fx.FOk d.f)
    (hA : defArgs d.st = Fx.xA d.f p1 p2) (hB : defBody d.st = Fx.xB d.f m q1 q2 q3 q4 q5 q6 q7 q8 q9 q10) (hS : defScope d.st = Fx.xS d.f) (hp : (q3.endLine == q5.line) = true)
    (bd : ∀ (fd : FuncData) (p1 p2 : Pos), fd.params = Fx.xA d.f p1 p2 → fd.defaults = .none → ∀ (u1 u2 : Value), bindArgs fd ⟨[u1, u2], []⟩ = pure [(("self" : Str), u1), (d.f, u2)])
    (top : (P.main.scope.names.lookup ("super" : Str)).isSome = false) : Fx.XC K P d.x d.f (ga K d.x) := by
  obtain ⟨c0, c⟩ := ba c
  obtain ⟨c1, c⟩ := ba c
  obtain ⟨c2, c⟩ := ba c
  obtain ⟨c3, c⟩ := ba c
  obtain ⟨c4, c⟩ := ba c
  obtain ⟨c5, c⟩ := ba c
  obtain ⟨c6, c⟩ := ba c
  obtain ⟨c7, c⟩ := ba c
  obtain ⟨c8, c⟩ := ba c
  obtain ⟨c9, c⟩ := ba c
  obtain ⟨c10, c⟩ := ba c
  obtain ⟨c11, c⟩ := ba c
  obtain ⟨c12, c⟩ := ba c
  obtain ⟨c13, c14⟩ := ba c
  refine ⟨fo, clsB_ok c1, eqO_ok c2, eqO_ok c3, eqO_ok c4, eqO_ok c5, c6, of_decide_eq_true c7, of_decide_eq_true c8, of_decide_eq_true c9, c10, eqO_ok c11, ⟨_, eqO_ok c12, of_decide_eq_true c13, ?_⟩, bd, top⟩
  unfold iniB at c14
  unfold fnXo at e
  cases q : K.lookup (ma K (ga K d.x) "__init__") with
  | none =>
    rw [q] at c14
    cases c14
  | some o =>
    obtain ⟨oc, od, dt, osl⟩ := o
    rw [q] at c14 e
    cases dt with
    | func fd =>
      obtain ⟨n1, n2, n3, n4, n5, n6, n7, n8, n9, n10, n11, n12, n13, n14, n15⟩ := fd
      have e2 : (some (n1, n2, n3, n4, n5, n6, n7.map (·.1), n8, n15) : FnX) = some (("__init__" : Str), d.qual, defArgs d.st, FuncBody.stmts (defBody d.st), defScope d.st, mainGlobals, [("__class__" : Str)], Value.none, builtinsNs) := e
      simp only [Option.some.injEq, Prod.mk.injEq] at e2
      obtain ⟨h1, h2, h3, h4, h5, h6, h7, h8, h9⟩ := e2
      subst h1 h2 h3 h4 h5 h6 h8 h9
      dsimp only at c14
      cases n7 with
      | nil => cases h7
      | cons a n7 =>
        cases n7 with
        | cons b n7 =>
          have z := congrArg List.length h7
          simp at z
        | nil =>
          obtain ⟨nm, cc⟩ := a
          have h7' : nm = ("__class__" : Str) := by
            have z := List.cons.inj h7
            exact z.1
          subst h7'
          cases n13 with
          | ref cda =>
            dsimp only at c14
            obtain ⟨d1, d2⟩ := ba c14
            obtain ⟨d3, d4⟩ := ba d2
            split at d3
            · rename_i ccl cdd vs ccs hl
              split at d3
              · rename_i n tf hvs
                have en : n = (P.main.file : Str) := of_decide_eq_true d3
                subst en
                split at d4
                · rename_i cl cld D csl hcell
                  have eD : D = ga K d.x := of_decide_eq_true d4
                  subst eD
                  refine ⟨d.qual, m, oc, od, n9, n10, n11, n12, cda, cc, n14, osl, p1, p2, q1, q2, q3, q4, q5, q6, q7, q8, q9, q10, ccl, cdd, vs, ccs, tf, cl, cld, csl, ?_, d1, hl, hvs, hcell, hp⟩
                  rw [hA, hB, hS]
                · cases d4
              · cases d3
            · cases d3
          | _ => cases c14
    | _ => cases c14
/-! ### the Hook -/
abbrev AlX : Type := Bool × List FnW × List FnX
def obsX (file : Str) (fa : List Fct) (fn : List DefD) (fi : List InD) (K : PySem.W.Frag) : AlX := (((fa.all fun f => f K) && (fn.all fun d => d.ok K)) && (fi.all fun d => d.ok file K), fn.map (fun d => fnW K d.at_), fi.map fun d => fnXo K d.x)
def valX (fn : List DefD) (fi : List InD) : AlX := (true, fn.map DefD.val, fi.map InD.val)
def SaysX (file : Str) (fa : List Fct) (fn : List DefD) (fi : List InD) (K : PySem.W.Frag) : Prop := obsX file fa fn fi K = valX fn fi
def obsXG (n : Nat) (file : Str) (fa : List Fct) (fn : List DefD) (fi : List InD) (g : Addr → Option Obj) : AlX := obsX file fa fn fi (frG g (asR g n))
def hookX (n : Nat) (file : Str) (fa : List Fct) (fn : List DefD) (fi : List InD) : PySem.W.Hook where
  α := AlX
  obs := fun s => obsXG n file fa fn fi s.heap.get?
  val := fun _ => valX fn fi
  says := fun _ h => ∃ K : PySem.W.Frag, K.In h ∧ SaysX file fa fn fi K
  of := fun _ _ e => ⟨_, frG_in, e⟩
  keeps := fun _ _ _ ⟨K, hK, c⟩ k => ⟨K, PySem.W.Frag.In.keeps hK k, c⟩
theorem obsXG_eq {n : Nat} {file : Str} {fa : List Fct} {fn : List DefD} {fi : List InD} {g : Addr → Option Obj} {s : Shared} (h : ∀ a, g a = s.heap.get? a) : obsXG n file fa fn fi g = (hookX n file fa fn fi).obs s := by
  have e : g = s.heap.get? := funext h
  rw [e] <;> rfl
section
variable {file : Str} {fa : List Fct} {fn : List DefD} {fi : List InD} {K : PySem.W.Frag}
theorem SaysX.fact (c : SaysX file fa fn fi K) (i : Nat) {f : Fct} (h : fa[i]? = some f := by rfl) : f K = true := by
  have c1 := (ba (ba (show (((fa.all fun f => f K) && (fn.all fun d => d.ok K)) && (fi.all fun d => d.ok file K)) = true from congrArg (fun z : AlX => z.1) c)).1).1
  exact List.all_eq_true.mp c1 f (List.mem_of_getElem? h)
theorem SaysX.def_ (c : SaysX file fa fn fi K) (i : Nat) {d : DefD} (h : fn[i]? = some d := by rfl) : ∃ fd, FunD K d.name d.qual d.params d.body d.scope (d.dvs K) (d.kws K) (fAd K d.at_) fd := by
  have c2 := (ba (ba (show (((fa.all fun f => f K) && (fn.all fun d => d.ok K)) && (fi.all fun d => d.ok file K)) = true from congrArg (fun z : AlX => z.1) c)).1).2
  have e : fn.map (fun d => fnW K d.at_) = fn.map DefD.val := congrArg (fun z : AlX => z.2.1) c
  have e2 : (fn.map fun d => fnW K d.at_)[i]? = (fn.map DefD.val)[i]? := by rw [e]
  rw [List.getElem?_map, List.getElem?_map, h] at e2
  exact DefD.funD (Option.some.inj e2) (List.all_eq_true.mp c2 d (List.mem_of_getElem? h))
theorem SaysX.ini (c : SaysX file fa fn fi K) (i : Nat) {d : InD} (h : fi[i]? = some d := by rfl) : fnXo K d.x = d.val ∧ d.ok file K = true := by
  have c2 := (ba (show (((fa.all fun f => f K) && (fn.all fun d => d.ok K)) && (fi.all fun d => d.ok file K)) = true from congrArg (fun z : AlX => z.1) c)).2
  have e : fi.map (fun d => fnXo K d.x) = fi.map InD.val := congrArg (fun z : AlX => z.2.2) c
  have e2 : (fi.map fun d => fnXo K d.x)[i]? = (fi.map InD.val)[i]? := by rw [e]
  rw [List.getElem?_map, List.getElem?_map, h] at e2
  exact ⟨Option.some.inj e2, List.all_eq_true.mp c2 d (List.mem_of_getElem? h)⟩
end
end FxH
/-! Short words over the layer: a def by its name (Src), a def that keeps its promise (Cal), constants (Cst) -/
namespace Fx
open PySem PySem.Spec PyProof.Rows L2
/-- a def of the text as it stands behind the top -/
def Src (K : PySem.W.Frag) (mg : Str → Option Value) (x : Str) (st : Stmt) : Prop := ∃ f fd, mg x = some (.ref f) ∧ FunD K x x (defArgs st) (defBody st) (defScope st) [] [] f fd
/-- a def that keeps its promise -/
structure Cal (P : Program) (w : World) (K : PySem.W.Frag) (mg : Str → Option Value) (base : Heap) (CX : CXT) (k : Nat) (x : Str) (ps : List Str) (sp : Sp) : Prop where
  ex : ∃ f fd, mg x = some (.ref f) ∧ PySem.W.keepIn K (.ref f) = true ∧ Binds K fd ps [] ∧ FnOk P w K mg base CX k f fd ps sp
/-- a constant of the module -/
def Cst (mg : Str → Option Value) (x : Str) (v : V) : Prop := ∃ u, mg x = some u ∧ RelV v u
section
variable {P : Program} {w : World} {K : PySem.W.Frag} {mg : Str → Option Value} {base : Heap} {x : Str} {st : Stmt} {N ps : List Str} {k : Nat} {sp : Sp}
abbrev BindP (x : Str) (st : Stmt) (ps : List Str) : Prop := ∀ (kV doc pm : Value) (an : Option Addr) (cdv ct : Value) (us : List Value), us.length = ps.length → bindArgs (PySem.W.fnOf x x (defArgs st) (defBody st) (defScope st) .none kV doc pm an cdv ct) ⟨us, []⟩ = pure (ps.zip us)
/-- a def that lets nothing out -/
theorem Src.cal (S : Src K mg x st) (sc : FnScope N ps (defScope st)) (bn : BindP x st ps) (len : ∀ vs H Q E, sp vs H Q E → vs.length = ps.length)
    (hbody : ∀ (f : Addr) (cdv : Value) (A : Around) (outer : List Env) (s : Shared) (H : Hp) (vs : List V) (Q : VK) (E : XK), Room k (A.deeper (envOfC x (defScope st) s.heap.objs.size f cdv)) → sp vs H Q E →
      ∃ t, PSs (cxOf CX0 P w K mg base N x (defScope st) f cdv A outer s H E).nox (defBody st) t ∧ t { nx := fun _ H' => Q .non H', rt := Q } (start N vs) H) : Cal P w K mg base CX0 (k + 1) x ps sp := by
  obtain ⟨f, fd, g, F⟩ := S
  refine ⟨f, fd, g, F.kp, F.bindsN bn, F.ok sc len fun cdv A outer s H vs Q E hr hsp => ?_⟩
  obtain ⟨t, h, q⟩ := hbody f cdv A outer s H vs Q E hr hsp
  exact ⟨t, h.nox, q⟩
/-- a def that may raise -/
theorem Src.calX (S : Src K mg x st) (sc : FnScope N ps (defScope st)) (bn : BindP x st ps) (len : ∀ vs H Q E, sp vs H Q E → vs.length = ps.length)
    (hbody : ∀ (f : Addr) (cdv : Value) (A : Around) (outer : List Env) (s : Shared) (H : Hp) (vs : List V) (Q : VK) (E : XK), Room k (A.deeper (envOfC x (defScope st) s.heap.objs.size f cdv)) → sp vs H Q E →
      ∃ t, PSs (cxOf (L2.CX P w) P w K mg base N x (defScope st) f cdv A outer s H E) (defBody st) t ∧ t { nx := fun _ H' => Q .non H', rt := Q } (start N vs) H) : Cal P w K mg base (L2.CX P w) (k + 1) x ps sp := by
  obtain ⟨f, fd, g, F⟩ := S
  exact ⟨f, fd, g, F.kp, F.bindsN bn, F.ok sc len fun cdv A outer s H vs Q E hr hsp => hbody f cdv A outer s H vs Q E hr hsp⟩
end
/-! ### arguments without a star -/
def nostar : Expr → Bool
  | .Starred _ _ => false
  | _ => true
theorem star_ok {e : Expr} {es : List Expr} {env : Env} (h : nostar e = true) : starEach (e :: es) env = (false, eval e env) :: starEach es env := by
  cases e <;> first | rfl | cases h
theorem back_ok {pos : Pos} {env : Env} : ∀ {es : List Expr}, es.all nostar = true → (backTo pos (starEach es env)).any (·.1) = false
  | [], _ => rfl
  | e :: es, h => by
    simp only [List.all_cons, Bool.and_eq_true] at h
    rw [star_ok h.1]
    show (false || (backTo pos (starEach es env)).any (·.1)) = false
    rw [back_ok h.2]
    rfl
theorem pa_c {X : Cx} {e : Expr} {es : List Expr} {te : TE} {t : TA} (ha : PE X e te) (hr : PA X es t) (hs : nostar e = true := by rfl) : PA X (e :: es) (tCons te t) := pa_cons ha hr (star_ok hs)
section
variable {X : Cx} {x : Str} {p pos : Pos} {e : Expr} {es : List Expr} {t : TA} {id T : String} {r : List V → Hp → VK → Prop}
theorem pe_cB (hc : CallR X (.builtin id) r) (hm : X.mg x = none) (hv : bootBuiltins x = some (.builtin id)) (ha : PA X (e :: es) t) (hg : Gl X x := by rfl) (hn : x ≠ "__name__" := by decide) (hdb : (x == ("__debug__" : Str)) = false := by decide)
    (hs : (e :: es).all nostar = true := by rfl) : PE X (.Call (.Name x p) (e :: es) [] pos) (tCB r t) := by
  simp only [List.all_cons, Bool.and_eq_true] at hs
  exact pe_callB hc hg hm hv ha hn hdb (star_ok hs.1) (back_ok hs.2)
theorem pe_cTy (hc : CallR X (.type T) r) (hm : X.mg x = none) (hv : bootBuiltins x = some (.type T)) (ha : PA X (e :: es) t) (hg : Gl X x := by rfl) (hn : x ≠ "__name__" := by decide) (hdb : (x == ("__debug__" : Str)) = false := by decide)
    (hs : (e :: es).all nostar = true := by rfl) : PE X (.Call (.Name x p) (e :: es) [] pos) (tCB r t) := by
  simp only [List.all_cons, Bool.and_eq_true] at hs
  exact pe_callTy hc hg hm hv ha hn hdb (star_ok hs.1) (back_ok hs.2)
end
section
variable {X : Cx} {x : Str} {ps : List Str} {sp : Sp} {k : Nat} {CX : CXT} {E : XK} {e : Expr} {es : List Expr} {t : TA} {p pos : Pos}
/-- f(e, ..) -/
theorem pe_cal (C : Cal X.prog X.w X.K X.mg X.base CX k x ps sp) (hr : Room k X.A) (hx : Passes CX X E) (ha : PA X (e :: es) t) (hg : Gl X x := by rfl) (hdb : (x == ("__debug__" : Str)) = false := by decide)
    (hs : (e :: es).all nostar = true := by rfl) : PE X (.Call (.Name x p) (e :: es) [] pos) (tCall sp [] E t) := by
  obtain ⟨f, fd, g, kp, b, F⟩ := C.ex
  simp only [List.all_cons, Bool.and_eq_true] at hs
  exact pe_call F hr hg g kp b .nil hx ha hdb (star_ok hs.1) (back_ok hs.2)
theorem pe_cal0 (C : Cal X.prog X.w X.K X.mg X.base CX k x ps sp) (hr : Room k X.A) (hx : Passes CX X E) (hg : Gl X x := by rfl) (hdb : (x == ("__debug__" : Str)) = false := by decide) : PE X (.Call (.Name x p) [] [] pos) (tCall sp [] E tNil) := by
  obtain ⟨f, fd, g, kp, b, F⟩ := C.ex
  exact pe_call0 F hr hg g kp b .nil hx hdb
/-- f(e, ..) of a def that may raise, in a try's body -/
theorem pe_calS {W : WX} (C : Cal X.prog X.w X.K X.mg X.base (L2.CX X.prog X.w) k x ps sp) (hr : Room k X.A) (tk : Takes X W) (ha : PA X (e :: es) t) (hg : Gl X x := by rfl) (hdb : (x == ("__debug__" : Str)) = false := by decide)
    (hs : (e :: es).all nostar = true := by rfl) : PE X (.Call (.Name x p) (e :: es) [] pos) (tCallS sp (WE W) t) := by
  obtain ⟨f, fd, g, kp, b, F⟩ := C.ex
  simp only [List.all_cons, Bool.and_eq_true] at hs
  exact pe_callS F hr hg g kp b (fun σ => passAt tk σ) ha hdb (star_ok hs.1) (back_ok hs.2)
theorem pe_cst {v : V} (h : Cst X.mg x v) (hg : Gl X x := by rfl) (hdb : (x == ("__debug__" : Str)) = false := by decide) : PE X (.Name x p) (tC v) := by
  obtain ⟨u, hm, r⟩ := h
  exact pe_glob hg hm r hdb
end
end Fx
/-! The law's bag of numbers -/
namespace Fx
open PySem PySem.Spec PyProof.Rows L2
def bagKV (c : Addr) (a r m n : Int) : List (Key × V) := [(.inr "cells", .ref c), (.inr "at", .int a), (.inr "rest", .int r), (.inr "mixed", .int m), (.inr "count", .int n)]
section
variable {c : Addr} {a r m n : Int} {v : Int}
theorem bag_cells : valV (bagKV c a r m n) (.inr "cells") = some (.ref c) := rfl
theorem bag_at : valV (bagKV c a r m n) (.inr "at") = some (.int a) := rfl
theorem bag_rest : valV (bagKV c a r m n) (.inr "rest") = some (.int r) := rfl
theorem bag_mixed : valV (bagKV c a r m n) (.inr "mixed") = some (.int m) := rfl
theorem bag_count : valV (bagKV c a r m n) (.inr "count") = some (.int n) := rfl
theorem bag_atP : putK (bagKV c a r m n) (.inr "at") (.int v) = bagKV c v r m n := rfl
theorem bag_restP : putK (bagKV c a r m n) (.inr "rest") (.int v) = bagKV c a v m n := rfl
theorem bag_mixedP : putK (bagKV c a r m n) (.inr "mixed") (.int v) = bagKV c a r v n := rfl
theorem bag_countP : putK (bagKV c a r m n) (.inr "count") (.int v) = bagKV c a r m v := rfl
end
/-- the bag at b, its numbers at c -/
def BagC (H : Hp) (b c : Addr) : Prop := ∃ (ns : List Int) (a r m n : Int), H b = some (.dK (bagKV c a r m n)) ∧ H c = some (.lst (ns.map V.int)) ∧ 0 ≤ a
def Bag (H : Hp) (b : Addr) : Prop := ∃ c : Addr, BagC H b c
/-- all that was tracked but the bag is as it was; the bag is a bag -/
structure Kp (b : Addr) (H H' : Hp) : Prop where
  keep : ∀ a o, a ≠ b → H a = some o → H' a = some o
  bag : Bag H' b
  cel : ∀ c, BagC H b c → BagC H' b c
section
variable {b c D : Addr} {H H1 H2 : Hp}
theorem Bag.some (B : Bag H b) : ∃ kvs, H b = some (.dK kvs) := by
  obtain ⟨c, ns, a, r, m, n, h, _⟩ := B
  exact ⟨_, h⟩
theorem BagC.same (B : BagC H b c) (s : Same H H1) : BagC H1 b c := by
  obtain ⟨ns, a, r, m, n, h1, h2, h3⟩ := B
  exact ⟨ns, a, r, m, n, s _ _ h1, s _ _ h2, h3⟩
theorem Kp.refl (B : Bag H b) : Kp b H H := ⟨fun _ _ _ h => h, B, fun _ h => h⟩
theorem Kp.trans (x : Kp b H H1) (y : Kp b H1 H2) : Kp b H H2 := ⟨fun a o n h => y.keep a o n (x.keep a o n h), y.bag, fun c h => y.cel c (x.cel c h)⟩
theorem Bag.same (B : Bag H b) (s : Same H H1) : Bag H1 b := by
  obtain ⟨c, h⟩ := B
  exact ⟨c, h.same s⟩
theorem Kp.same (B : Bag H b) (s : Same H H1) : Kp b H H1 := ⟨fun a o _ h => s a o h, B.same s, fun c h => h.same s⟩
theorem Kp.then (x : Kp b H H1) (s : Same H1 H2) : Kp b H H2 := x.trans (Kp.same x.bag s)
theorem BagC.put {o : HO} (B : BagC H b c) (hb : b ≠ D) (hc : c ≠ D) : BagC (upd H D o) b c := by
  obtain ⟨ns, a, r, m, n, h1, h2, h3⟩ := B
  exact ⟨ns, a, r, m, n, by rw [upd_ne hb]; exact h1, by rw [upd_ne hc]; exact h2, h3⟩
/-- what was made since then may be changed -/
theorem Kp.put {o : HO} (B : Bag H b) (x : Kp b H H1) (hD : H D = Option.none) : Kp b H (upd H1 D o) := by
  have g : ∀ c, BagC H b c → BagC (upd H1 D o) b c := by
    intro c Bc
    have B1 := x.cel c Bc
    obtain ⟨ns, a, r, m, n, h1, h2, h3⟩ := Bc
    exact B1.put (ne_of_none h1 hD) (ne_of_none h2 hD)
  obtain ⟨c, Bc⟩ := B
  exact ⟨fun a o' n h => by rw [upd_ne (ne_of_none h hD)]; exact x.keep a o' n h, ⟨c, g c Bc⟩, g⟩
theorem Kp.none_ne (x : Kp b H H1) (B : Bag H b) (hD : H D = Option.none) : D ≠ b := fun e => by
  obtain ⟨kvs, h⟩ := B.some
  rw [← e, hD] at h
  cases h
theorem Bag.lst (B : Bag H b) {a : Addr} {xs : List V} (h : H a = Option.some (.lst xs)) : a ≠ b := by
  obtain ⟨c, ns, x, r, m, n, h1, _⟩ := B
  exact ne_of h h1 (by intro z; cases z)
theorem Bag.tup (B : Bag H b) {a : Addr} {xs : List V} (h : H a = Option.some (.tup xs)) : a ≠ b := by
  obtain ⟨c, ns, x, r, m, n, h1, _⟩ := B
  exact ne_of h h1 (by intro z; cases z)
theorem Kp.lst (x : Kp b H H1) (B : Bag H b) {a : Addr} {xs : List V} (h : H a = Option.some (.lst xs)) : H1 a = Option.some (.lst xs) := x.keep _ _ (B.lst h) h
theorem Kp.tup (x : Kp b H H1) (B : Bag H b) {a : Addr} {xs : List V} (h : H a = Option.some (.tup xs)) : H1 a = Option.some (.tup xs) := x.keep _ _ (B.tup h) h
theorem Kp.free (x : Kp b H H1) {p : Addr} (h : H1 p = Option.none) : H p = Option.none := by
  cases q : H p with
  | none => rfl
  | some o =>
    by_cases e : p = b
    · obtain ⟨kvs, hb⟩ := x.bag.some
      rw [e, hb] at h
      cases h
    · rw [x.keep p o e q] at h
      cases h
theorem same_new {H : Hp} {p : Addr} {o : HO} (h : H p = Option.none) : Same H (upd H p o) := fun b x e => by
  rw [upd_ne (ne_of_none e h)]
  exact e
end
/-- _law_pick(bag, many) -/
def spPick : Sp := fun vs H Q _ => ∃ (b : Addr) (many : Int), vs = [.ref b, .int many] ∧ Bag H b ∧ 0 < many ∧ many < 1073741824 ∧ ∀ (n : Int) (H' : Hp), 0 ≤ n → n < many → Kp b H H' → Q (.int n) H'
/-- _law_bag(script) -/
def spBag (K : PySem.W.Frag) : Sp := fun vs H Q _ => ∃ (a : Addr) (ns : List Int), vs = [.ref a] ∧ SqL K H a (ns.map V.int) ∧ ns.length ≤ 1000 ∧ ∀ (b : Addr) (H' : Hp), Same H H' → H b = none → Bag H' b → Q (.ref b) H'
end Fx
/-! Readings evaluated by simp -/
namespace Fx
open PySem PySem.Spec PyProof.Rows L2
section
variable {H H' : Hp} {a b p : Addr} {z : Str} {i : Int} {r : Option V} {v : V} {kvs : List (Key × V)} {o u : HO}
theorem dget_s (hb : H b = some (.dK kvs)) : DGet H b (.str z) r ↔ r = valV kvs (.inr z) := by
  constructor
  · rintro (⟨kvs', k, hr, e, rfl⟩ | ⟨kvs', k, b', hr, e, _⟩)
    · rcases hr with hr | ⟨o, hr⟩
      · rw [hb] at hr
        cases hr
        cases k with
        | inl i => cases e
        | inr y => cases e; rfl
      · rw [hb] at hr
        cases hr
    · cases e
  · rintro rfl
    exact DGet.k (k := Sum.inr z) hb
theorem dget_i (hb : H b = some (.dK kvs)) : DGet H b (.int i) r ↔ r = valV kvs (.inl i) := by
  constructor
  · rintro (⟨kvs', k, hr, e, rfl⟩ | ⟨kvs', k, b', hr, e, _⟩)
    · rcases hr with hr | ⟨o, hr⟩
      · rw [hb] at hr
        cases hr
        cases k with
        | inl i => cases e; rfl
        | inr y => cases e
      · rw [hb] at hr
        cases hr
    · cases e
  · rintro rfl
    exact DGet.k (k := Sum.inl i) hb
theorem dput_s (hb : H b = some (.dK kvs)) (hl : kvs.length < 1000) : DPut H b (.str z) v H' ↔ H' = upd H b (.dK (putK kvs (.inr z) v)) := by
  constructor
  · rintro (⟨kvs', k, hr, e, _, rfl⟩ | ⟨kvs', k, b', hr, e, _⟩)
    · rw [hb] at hr
      cases hr
      cases k with
      | inl i => cases e
      | inr y => cases e; rfl
    · cases e
  · rintro rfl
    exact DPut.k (k := Sum.inr z) hb (Nat.lt_of_lt_of_le hl (by decide))
theorem dget_su : DGet (upd H b (.dK kvs)) b (.str z) r ↔ r = valV kvs (.inr z) := dget_s upd_same
theorem dput_su (hl : kvs.length < 1000) : DPut (upd H b (.dK kvs)) b (.str z) v H' ↔ H' = upd H b (.dK (putK kvs (.inr z) v)) := by
  rw [dput_s upd_same hl, upd_upd]
theorem bag_len {c : Addr} {a r m n : Int} : (bagKV c a r m n).length < 1000 := show 5 < 1000 by decide
theorem ite_dec {p : Prop} [Decidable p] {A B : Prop} : (if decide p = true then A else B) ↔ (if p then A else B) := by simp
theorem ite_ndec {p : Prop} [Decidable p] {A B : Prop} : (if (!decide p) = true then A else B) ↔ (if p then B else A) := by
  by_cases h : p <;> simp [h]
end
end Fx
namespace Fx
open PySem PySem.Spec PyProof.Rows L2
/-- one statement first; the rest stays folded -/
theorem seqI {t u : TS} {D : Ends} {σ : L2.St} {H : Hp} (h : ∀ K : L2.St → Hp → Prop, (∀ σ H, u D σ H → K σ H) → t { D with nx := K } σ H) : tSeq t u D σ H := h (u D) fun _ _ x => x
theorem ifI {tc : TT} {t u : TS} {D : Ends} {σ : L2.St} {H : Hp} (h : ∀ A B : Hp → Prop, (∀ H1, t D σ H1 → A H1) → (∀ H1, u D σ H1 → B H1) → tc σ H (fun b H1 => if b = true then A H1 else B H1)) : tIfS tc t u D σ H := h (t D σ) (u D σ) (fun _ x => x) (fun _ x => x)
theorem while_i {c : TT} {tb : TS} {D : Ends} {σ : L2.St} {H : Hp} (Pv : L2.St → Hp → Prop) (μ : L2.St → Hp → Nat) (h0 : Pv σ H)
    (hs : ∀ σ H, Pv σ H → ∀ A B : Hp → Prop, (∀ H1, tb { D with nx := fun σ' H' => Pv σ' H' ∧ μ σ' H' < μ σ H, ct := fun σ' H' => Pv σ' H' ∧ μ σ' H' < μ σ H, bk := D.nx } σ H1 → A H1) → (∀ H1, D.nx σ H1 → B H1) → c σ H fun b H1 => if b = true then A H1 else B H1) : tWhile c tb D σ H := by
  refine ⟨fun m σ H => m = μ σ H ∧ Pv σ H, ⟨_, rfl, h0⟩, ?_⟩
  rintro m σ H ⟨rfl, p⟩
  exact hs σ H p _ _ (fun H1 t => ⟨fun σ' H' => Pv σ' H' ∧ μ σ' H' < μ σ H, fun σ' H' ⟨a, b⟩ => ⟨μ σ' H', b, rfl, a⟩, t⟩) (fun H1 x => x)
theorem ite_i {c A B : Prop} [Decidable c] (h1 : c → A) (h2 : ¬ c → B) : if c then A else B := ite2 h1 h2
theorem sz {n : Nat} (h : n ≤ 100000) : n ≤ sizeLine := Nat.le_trans h (by decide)
end Fx
namespace Fx
open PySem PySem.Spec PyProof.Rows L2
theorem cx_K {CX : CXT} {P : Program} {w : World} {K : PySem.W.Frag} {mg : Str → Option Value} {base : Heap} {N : List Str} {qual : Str} {scope : Scope} {f : Addr} {cd : Value} {A : Around} {outer : List Env} {s : Shared} {H : Hp} {E : XK} :
    (cxOf CX P w K mg base N qual scope f cd A outer s H E).K = K := rfl
end Fx
/-! Rules whose readings ask the tracked heap alone -/
namespace Fx
open PySem PySem.Spec PyProof.Rows L2
section
variable {X : Cx}
theorem IxR.imp {r r' : R2} (h : IxR X r) (i : ∀ x y H Q, r' x y H Q → r x y H Q) : IxR X r' := by
  intro value slice pins s σ H x y v u Q I rx ry q e
  exact h value slice pins s σ H x y v u Q I rx ry (i _ _ _ _ q) e
theorem CallR.imp {f : Value} {r r' : List V → Hp → VK → Prop} (h : CallR X f r) (i : ∀ xs H Q, r' xs H Q → r xs H Q) : CallR X f r' := fun pins s σ H xs us Q I rx q => h pins s σ H xs us Q I rx (i _ _ _ q)
theorem SlR.imp {r r' : V → Option Int → Option Int → Hp → VK → Prop} (h : SlR X r) (i : ∀ x lo hi H Q, r' x lo hi H Q → r x lo hi H Q) : SlR X r' := by
  intro pins s σ H x v vl vu lo hi sl Q I rx hs pl pu q
  exact h pins s σ H x v vl vu lo hi sl Q I rx hs pl pu (i _ _ _ _ _ q)
/-- xs[i], a tracked list | tuple -/
def rIxLt : R2 := fun x y H Q => ∃ p i xs, x = .ref p ∧ y = .int i ∧ H p = some (.lst xs) ∧ ∃ v, atI xs i = some v ∧ Q v H
def rIxTt : R2 := fun x y H Q => ∃ p i xs, x = .ref p ∧ y = .int i ∧ H p = some (.tup xs) ∧ ∃ v, atI xs i = some v ∧ Q v H
theorem ix_L : IxR X rIxLt := IxR.imp ix_list fun x y H Q ⟨p, i, xs, e1, e2, h, v, a, q⟩ => ⟨p, xs, i, v, e1, e2, .inl (.inl h), a, q⟩
theorem ix_T : IxR X rIxTt := IxR.imp ix_tup fun x y H Q ⟨p, i, xs, e1, e2, h, v, a, q⟩ => ⟨p, xs, i, v, e1, e2, .inl (.inl h), a, q⟩
/-- s[i] -/
def rIxSt : R2 := fun x y H Q => ∃ z i, x = .str z ∧ y = .int i ∧ z.length ≤ sizeLine ∧ ∃ c, atI z.cps.toList i = some c ∧ Q (.str ⟨#[c]⟩) H
theorem ix_S : IxR X rIxSt := IxR.imp ix_str fun x y H Q ⟨z, i, e1, e2, h, v, a, q⟩ => ⟨z, i, v, e1, e2, h, a, q⟩
/-- len(xs) -/
def rLenL : List V → Hp → VK → Prop := fun xs H Q => ∃ p ys, xs = [.ref p] ∧ H p = some (.lst ys) ∧ Q (.int ys.length) H
def rLenT : List V → Hp → VK → Prop := fun xs H Q => ∃ p ys, xs = [.ref p] ∧ H p = some (.tup ys) ∧ Q (.int ys.length) H
theorem len_L : CallR X (.builtin "len") rLenL := CallR.imp call_len_seq fun xs H Q ⟨p, ys, e, h, q⟩ => ⟨p, ys, e, .inl (.inl (.inl h)), q⟩
theorem len_T : CallR X (.builtin "len") rLenT := CallR.imp call_len_seq fun xs H Q ⟨p, ys, e, h, q⟩ => ⟨p, ys, e, .inr (.inl (.inl h)), q⟩
def rLenS : List V → Hp → VK → Prop := fun xs H Q => ∃ z, xs = [.str z] ∧ z.length ≤ sizeLine ∧ Q (.int z.length) H
theorem len_S : CallR X (.builtin "len") rLenS := call_len_str
/-- int(n) -/
def rIntI : List V → Hp → VK → Prop := fun xs H Q => ∃ i, xs = [.int i] ∧ Q (.int i) H
theorem int_I : CallR X (.type "int") rIntI := CallR.imp call_int1 fun xs H Q h => .inl h
def rOrd : List V → Hp → VK → Prop := fun xs H Q => ∃ x, xs = [.str x] ∧ x.length = 1 ∧ Q (.int (x.cps.getD 0 0 : Nat)) H
theorem ord_S : CallR X (.builtin "ord") rOrd := call_ord
/-- xs[a:b] -/
def rSlLt : V → Option Int → Option Int → Hp → VK → Prop := fun x lo hi H Q => ∃ a xs, x = .ref a ∧ H a = some (.lst xs) ∧ ∀ p, H p = none → Q (.ref p) (upd H p (.lst (cutV xs lo hi)))
theorem sl_L : SlR X rSlLt := SlR.imp sl_list fun x lo hi H Q ⟨a, xs, e, h, q⟩ => ⟨a, xs, e, .inl (.inl h), q⟩
/-- list(t), list(xs) -/
def rLstL : List V → Hp → VK → Prop := fun xs H Q => ∃ p ys, xs = [.ref p] ∧ H p = some (.lst ys) ∧ ∀ l, H l = none → Q (.ref l) (upd H l (.lst ys))
def rLstT : List V → Hp → VK → Prop := fun xs H Q => ∃ p ys, xs = [.ref p] ∧ H p = some (.tup ys) ∧ ∀ l, H l = none → Q (.ref l) (upd H l (.lst ys))
theorem list_L : CallR X (.type "list") rLstL := CallR.imp call_list_of fun xs H Q ⟨p, ys, e, h, q⟩ => ⟨p, ys, e, .inl (.inl (.inl h)), q⟩
theorem list_T : CallR X (.type "list") rLstT := CallR.imp call_list_of fun xs H Q ⟨p, ys, e, h, q⟩ => ⟨p, ys, e, .inr (.inl (.inl h)), q⟩
/-- all(xs), any(xs) of truth values -/
def rAllL : List V → Hp → VK → Prop := fun vs H Q => ∃ (a : Addr) (bs : List Bool), vs = [V.ref a] ∧ H a = some (.lst (bs.map V.bl)) ∧ Q (.bl (bs.all id)) H
def rAnyL : List V → Hp → VK → Prop := fun vs H Q => ∃ (a : Addr) (bs : List Bool), vs = [V.ref a] ∧ H a = some (.lst (bs.map V.bl)) ∧ Q (.bl (bs.any id)) H
theorem all_L (hc : X.calm = true) : CallR X (.builtin "all") rAllL := CallR.imp (cr_all hc) fun xs H Q ⟨p, ys, e, h, q⟩ => ⟨p, ys, e, .inl (.inl h), q⟩
theorem any_L (hc : X.calm = true) : CallR X (.builtin "any") rAnyL := CallR.imp (cr_any hc) fun xs H Q ⟨p, ys, e, h, q⟩ => ⟨p, ys, e, .inl (.inl h), q⟩
/-- s * n -/
def rMulS : R2 := fun x y H Q => ∃ z n, x = .str z ∧ y = .int n ∧ 0 ≤ n ∧ n ≤ 1000000 ∧ z.length * n.toNat ≤ 1000000 ∧ Q (.str (Txt.mul z n)) H
theorem mulOk_of {z : Str} {n : Int} (h0 : 0 ≤ n) (h : z.length * n.toNat ≤ 1000000) (hn : z.length ≠ 0 → n ≤ 1000000) (h63 : n < 2 ^ 63) : MulOk z n := by
  refine ⟨?_, fun h1 h2 => ?_, fun h1 h2 => ?_⟩
  · have a : ¬ n < -(2 ^ 63 : Int) := by omega
    have b : ¬ n ≥ 2 ^ 63 := by omega
    simp only [decide_eq_false a, decide_eq_false b, Bool.or_self]
  · simp only [Bool.or_eq_false_iff, beq_eq_false_iff_ne] at h2
    have hz := hn h2.2
    have hl : z.length ≤ 1000000 := Nat.le_trans (Nat.le_mul_of_pos_right _ (by omega)) h
    have : (2 ^ 63 - 1) / n ≥ 1000000 := by
      apply (Int.le_ediv_iff_mul_le (by omega)).mpr
      have : 1000000 * n ≤ 1000000 * 1000000 := Int.mul_le_mul_of_nonneg_left hz (by decide)
      omega
    omega
  · unfold Builtin.Str.tooLong
    rw [decide_eq_false_iff_not, sizeLine_eq]
    omega
theorem op_mul_str : OpR X (binaryOp .Mult) rMulS := by
  intro pins s σ H x y v u Q I rx ry h
  obtain ⟨z, n, rfl, rfl, h0, h1, hl, q⟩ := h
  obtain ⟨t, rfl⟩ := rx
  obtain ⟨t', rfl⟩ := ry
  exact SB.mul (mulOk_of h0 hl (fun _ => h1) (by omega)) fun t' k => ⟨.str (Txt.mul z n), H, I.tok _, ⟨_, rfl⟩, q⟩
end
/-! ### for i, c in enumerate(text) -/
def Ites (z : Str) : It :=
  ⟨fun i _ => i < z.cps.size, fun i H v H' => ∃ T c, v = .ref T ∧ H T = none ∧ H' = upd H T (.tup [.int (i : Nat), .str ⟨#[c]⟩]) ∧ z.cps[i]? = some c, fun i _ => z.cps.size ≤ i⟩
theorem strDraws {P : Program} {w : World} {A : Around} (hh : A.handled = none) (it : Addr) (x : Str) (t : Tok) : Draws P w A it [it] x.cps.size (fun i v => ∃ c u, x.cps[i]? = some c ∧ v = .str ⟨#[c]⟩ u) (fun i h => h.IsStrIter it (strIterType x) x t i) := by
  have e : strIterType x = "str_ascii_iterator" ∨ strIterType x = "str_iterator" := by
    unfold strIterType
    split
    · exact .inl rfl
    · exact .inr rfl
  rcases e with e | e
  · rw [e]; exact Draws.strAscii hh it x t
  · rw [e]; exact Draws.strWide hh it x t
theorem turn_enumS {P : Program} {w : World} {K : PySem.W.Frag} {elts : List Expr} {kk : Nat} {tpos : Pos} (x : Str) (t : Tok) (e it : Addr) :
    Turn P w K (.Tuple elts kk tpos) (Ites x) [e, it] e (fun i h => (∃ old, IsEnum h e it ((i : Nat) : Int) old) ∧ h.IsStrIter it (strIterType x) x t i ∧ i ≤ x.cps.size ∧ e ≠ it) where
  mem := by simp
  obj := fun i h st b hb => by
    obtain ⟨⟨old, he⟩, ⟨o, ho, hc, hd⟩, _⟩ := st
    have e' : b = e ∨ b = it := by simpa using hb
    rcases e' with z | z
    · rw [z]; exact ⟨_, he, fun v q => nomatch q⟩
    · rw [z]; exact ⟨o, ho, fun v q => by rw [hd] at q; cases q⟩
  keep := fun i h h' st k => let ⟨⟨old, he⟩, ⟨o, ho, hr⟩, hi, hne⟩ := st; ⟨⟨old, k e (by simp) _ he⟩, ⟨o, k it (by simp) o ho, hr⟩, hi, hne⟩
  item := by
    intro X hP hw hK hc i pins s σ H E I hf st hg
    subst hP hw hK
    obtain ⟨⟨old, he⟩, hit, hi, hne⟩ := st
    have hel : e < s.heap.objs.size := Heap.lt_size he
    have hil : it < s.heap.objs.size := by obtain ⟨_, q, _⟩ := hit; exact Heap.lt_size q
    have D := strDraws (P := X.prog) (w := X.w) (A := X.A.in1) (show X.A.in1.handled = none from I.ok.hd hc) it x t
    refine wpAny_pyNext_enum_itemD D he hit hg hne (by simpa using hne) fun u h' tk hu ho hit' hT hsz hk => ?_
    obtain ⟨c, tc, hcx, rfl⟩ := hu
    refine ⟨_, rfl, wpAny_letOwnedTupleGo_enum (s := { s with heap := h', toks := tk + 1 }) ho fun h'' he' sb => ?_⟩
    have hT2 : h''.get? s.heap.objs.size = some { cls := .type "tuple", data := .seq #[.int i tk, .str ⟨#[c]⟩ tc] } := (sb.2 _ (Nat.ne_of_gt hel)).trans hT
    have new : ObjOk X.prog X.w (upd H s.heap.objs.size (.tup [.int (i : Nat), .str ⟨#[c]⟩])) h'' s.heap.objs.size (.tup [.int (i : Nat), .str ⟨#[c]⟩]) :=
      ⟨by show 2 ≤ sizeLine; decide, [.int i tk, .str ⟨#[c]⟩ tc], .cons ⟨_, rfl⟩ (.cons ⟨_, rfl⟩ .nil), ⟨_, hT2, rfl, _, rfl⟩⟩
    have I1 : Inv X pins σ (upd H s.heap.objs.size (.tup [.int (i : Nat), .str ⟨#[c]⟩])) { s with heap := h'', toks := tk + 1 } :=
      I.turnedNew (ch := [e, it]) (fun b ob hb q => (sb.2 b (fun z => hb (by simp [z]))).trans (hk b ob (fun z => hb (by simp [z])) (fun z => hb (by simp [z])) q)) hf (Nat.le_refl _) new
    refine ⟨.ref s.heap.objs.size, _, I1, rfl, ⟨_, c, rfl, I.hok.fresh (Nat.le_refl _), rfl, hcx⟩, ⟨⟨.str ⟨#[c]⟩ tc, ?_⟩, ?_, hg, hne⟩, fun b hb => ?_⟩
    · have e1 : ((i + 1 : Nat) : Int) = (i : Int) + 1 := by omega
      rw [e1]; exact he'
    · obtain ⟨o, ho2, hr⟩ := hit'
      exact ⟨o, (sb.2 it (Ne.symm hne)).trans ho2, hr⟩
    · have hb' : b < s.heap.objs.size := by
        have e' : b = e ∨ b = it := by simpa using hb
        rcases e' with z | z
        · rw [z]; exact hel
        · rw [z]; exact hil
      rw [upd_ne (Nat.ne_of_lt hb')]
      exact (hf b hb).1
  done := by
    intro X hP hw hK hc i pins s σ H E I hf st hg
    subst hP hw hK
    obtain ⟨⟨old, he⟩, hit, hi, hne⟩ := st
    have ei : i = x.cps.size := Nat.le_antisymm hi hg
    subst ei
    obtain ⟨f0, f1, f2, f3, f4, f5⟩ := hf it (by simp)
    have D := strDraws (P := X.prog) (w := X.w) (A := X.A.in1) (show X.A.in1.handled = none from I.ok.hd hc) it x t
    exact wpAny_pyNext_enum_endD D he hit fun h' eb => ⟨rfl, I.turned (t' := s.toks) (fun b o hb q => eb b o hb q) f0 f1 f3 f4 f5⟩
  self := fun A i s Q E st h => let ⟨⟨_, he⟩, _⟩ := st; wpAny_pyIter_enum he h
def iEnumS (ta : TA) : TI := fun σ H R => ta σ H fun vs H1 => ∃ z, vs = [.str z] ∧ R (Ites z) H1
theorem pi_enumS {X : Cx} {e : Expr} {ta : TA} {p pos tpos : Pos} {elts : List Expr} {kk : Nat} (hg : Gl X "enumerate") (hm : X.mg "enumerate" = none) (ha : PA X [e] ta) (hs : starEach [e] X.env = [(false, eval e X.env)] := by rfl) :
    PI X (.Tuple elts kk tpos) (.Call (.Name "enumerate" p) [e] [] pos) (iEnumS ta) := by
  refine ⟨fun pins s σ H R I h => ?_⟩
  refine Call_ (ld_blt I hg hm boot_enumerate (PyProof.Rows.callWith_type1 (thn (ha.run pos pins s σ H _ I h) fun us s1 ⟨vs, H1, I1, r1, q1⟩ => ?_) hs rfl))
  obtain ⟨z, ex, q⟩ := q1
  subst ex
  cases r1 with
  | cons r rr =>
    cases rr
    obtain ⟨t, rfl⟩ := r
    refine call_enumerate_str fun h' he hit hsz hk => wpAny_pyIter_enum he ?_
    have I2 : Inv X pins σ H1 { s1 with heap := h' } := I1.kept (t' := s1.toks) hk
    refine ⟨s1.heap.objs.size + 1, [s1.heap.objs.size + 1, s1.heap.objs.size], _, _, H1, rfl, I2, turn_enumS z t (s1.heap.objs.size + 1) s1.heap.objs.size, ⟨⟨.none, he⟩, hit, Nat.zero_le _, Nat.succ_ne_self _⟩, fun b hb => ?_, q⟩
    have e' : b = s1.heap.objs.size + 1 ∨ b = s1.heap.objs.size := by simpa using hb
    have hle : s1.heap.objs.size ≤ b := by
      rcases e' with z | z
      · rw [z]; exact Nat.le_add_right _ _
      · rw [z]; exact Nat.le_refl _
    exact I1.fpOk hle (I1.hok.fresh hle)
/-- the loop over enumerate(text), by an invariant -/
theorem for_enumS {z : Str} {g : TG} {tb : TS} {D : Ends} {σ : L2.St} {H1 : Hp} (Pv : Nat → L2.St → Hp → Prop) (h0 : Pv 0 σ H1)
    (hs : ∀ i c T σ H, z.cps[i]? = some c → Pv i σ H → H T = none → g (.ref T) σ (upd H T (.tup [.int (i : Nat), .str ⟨#[c]⟩])) fun σ' H' => tb { nx := fun σ H => Pv (i + 1) σ H, rt := D.rt, bk := D.nx, ct := fun σ H => Pv (i + 1) σ H } σ' H')
    (hd : ∀ σ H, Pv z.cps.size σ H → D.nx σ H) : ∃ W : Nat → Nat → L2.St → Hp → Prop, (∃ m, W 0 m σ H1) ∧ ∀ i m σ H, W i m σ H →
      ((Ites z).stop i H ∧ D.nx σ H) ∨ ((Ites z).go i H ∧ ∃ N : L2.St → Hp → Prop, (∀ σ' H', N σ' H' → ∃ m', m' < m ∧ W (i + 1) m' σ' H') ∧ ∀ x H', (Ites z).yld i H x H' → g x σ H' fun σ2 H2 => tb { nx := N, rt := D.rt, bk := D.nx, ct := N } σ2 H2) := by
  refine ⟨fun i m σ H => m = z.cps.size - i ∧ i ≤ z.cps.size ∧ Pv i σ H, ⟨_, rfl, Nat.zero_le _, h0⟩, ?_⟩
  rintro i m σ H ⟨rfl, hi, p⟩
  by_cases hlt : i < z.cps.size
  · refine .inr ⟨hlt, fun σ' H' => Pv (i + 1) σ' H', fun σ' H' q => ⟨z.cps.size - (i + 1), by omega, rfl, hlt, q⟩, fun x H' hy => ?_⟩
    obtain ⟨T, c, rfl, nT, rfl, hc⟩ := hy
    exact hs i c T σ H hc p nT
  · have ei : i = z.cps.size := by omega
    subst ei
    exact .inl ⟨Nat.le_refl _, hd σ H p⟩
end Fx
/-! == of flat lists; isinstance of built-in classes -/
namespace Fx
open PySem PySem.Spec PyProof.Rows L2
/-- None, an int, a text: two of these are equal in Python just if they are the same -/
def isF : V → Bool
  | .non => true
  | .int _ => true
  | .str x => PyData.strOk x
  | _ => false
def datV : V → PyData
  | .non => .none
  | .int i => .int i
  | .str x => .str x
  | _ => .none
theorem eqv_dat {x y : V} (hx : isF x = true) (hy : isF y = true) : PyData.eqv (datV x) (datV y) = decide (x = y) := by
  cases x <;> cases y <;> first | (exfalso; revert hx; simp [isF]; done) | (exfalso; revert hy; simp [isF]; done) | (simp [datV, PyData.eqv]; done) | (simp only [datV, PyData.eqv, V.int.injEq, V.str.injEq]; exact Bool.eq_iff_iff.mpr (by simp)) 
theorem eqvAll_dat : ∀ {xs ys : List V}, xs.all isF = true → ys.all isF = true → PyData.eqvAll (xs.map datV) (ys.map datV) = decide (xs = ys)
  | [], [], _, _ => by simp [PyData.eqvAll]
  | [], _ :: _, _, _ => by simp [PyData.eqvAll]
  | _ :: _, [], _, _ => by simp [PyData.eqvAll]
  | x :: xs, y :: ys, hx, hy => by
    simp only [List.all_cons, Bool.and_eq_true] at hx hy
    simp only [List.map_cons, PyData.eqvAll, eqv_dat hx.1 hy.1, eqvAll_dat hx.2 hy.2]
    by_cases e : x = y <;> simp [e]
theorem dp_dat {K : PySem.W.Frag} {H : Hp} {x : V} (hx : isF x = true) : Dp K H x (datV x) := by
  cases x <;> first | (exfalso; revert hx; simp [isF]; done) | exact .non | exact .int _ | exact .str _
theorem dpAll_dat {K : PySem.W.Frag} {H : Hp} : ∀ {xs : List V}, xs.all isF = true → DpAll K H xs (xs.map datV)
  | [], _ => .nil
  | x :: xs, hx => by
    simp only [List.all_cons, Bool.and_eq_true] at hx
    exact .cons (dp_dat hx.1) (dpAll_dat hx.2)
theorem lay_flat : ∀ {xs : List V}, xs.all isF = true → PyData.canLayAll0 (xs.map datV) = true ∧ PyData.depthAll (xs.map datV) = 0
  | [], _ => by simp [PyData.canLayAll0, PyData.depthAll]
  | x :: xs, hx => by
    simp only [List.all_cons, Bool.and_eq_true] at hx
    obtain ⟨h1, h2⟩ := lay_flat hx.2
    have h3 : PyData.canLay0 (datV x) = true ∧ PyData.depth (datV x) = 0 := by
      have hx1 := hx.1
      cases x <;> first | (exfalso; revert hx1; simp [isF]; done) | exact ⟨by simpa [datV, PyData.canLay0, isF] using hx1, by simp [datV, PyData.depth]⟩
    simp [PyData.canLayAll0, PyData.depthAll, h1, h2, h3.1, h3.2]
theorem shaped_flat {xs : List V} (hx : xs.all isF = true) : SeqAt.shaped (.list (xs.map datV)) = true := by
  obtain ⟨h1, h2⟩ := lay_flat hx
  simp [SeqAt.shaped, PyData.canLay0, PyData.depth, h1, h2]
def rEqL : R2 := fun x y H Q => ∃ p q xs ys, x = .ref p ∧ y = .ref q ∧ H p = some (.lst xs) ∧ H q = some (.lst ys) ∧ xs.all isF = true ∧ ys.all isF = true ∧ Q (.bl (decide (xs = ys))) H
theorem eq_LL {X : Cx} (hu : X.A.units + 64 < cLine) : OpR X (compareOp .Eq) rEqL := by
  intro pins s σ H x y v u Q I rx ry h
  obtain ⟨p, q, xs, ys, rfl, rfl, hp, hq, fx, fy, k⟩ := h
  refine op_eqD hu pins s σ H _ _ v u Q I rx ry ⟨.list (xs.map datV), .list (ys.map datV), .lst (.inl (.inl hp)) (dpAll_dat fx), .lst (.inl (.inl hq)) (dpAll_dat fy), shaped_flat fx, shaped_flat fy, ?_⟩
  rw [PyData.eqv, eqvAll_dat fx fy]
  exact k
/-- what built-in type a value is of -/
def tyv (H : Hp) : V → Option String
  | .non => some "NoneType"
  | .bl _ => some "bool"
  | .int _ => some "int"
  | .str _ => some "str"
  | .byt _ => some "bytes"
  | .ref a => (match H a with
    | some (.lst _) => some "list"
    | some (.tup _) => some "tuple"
    | some (.dK _) => some "dict"
    | some (.dT _) => some "dict"
    | _ => none)
  | _ => none
theorem tyv_ok {K : PySem.W.Frag} {H : Hp} {x : V} {t : String} (h : tyv H x = some t) : TyX K H x (.type t) := by
  cases x with
  | non => cases h; exact .base .non
  | bl b => cases h; exact .base (.bl b)
  | int i => cases h; exact .base (.int i)
  | str z => cases h; exact .base (.str z)
  | byt b => cases h; exact .byt b
  | flt b => cases h
  | ty n => cases h
  | ref a =>
    simp only [tyv] at h
    cases e : H a with
    | none => simp only [e] at h; cases h
    | some o =>
      simp only [e] at h
      cases o <;> first | (cases h; done) | (cases h; exact .base (.lst e)) | (cases h; exact .base (.tup e)) | (cases h; exact .base (.dK e)) | (cases h; exact .base (.dT e))
section
variable {H : Hp} {a : Addr} {xs : List V} {kvs : List (Key × V)}
theorem tyv_non : tyv H .non = some "NoneType" := rfl
theorem tyv_bl {b : Bool} : tyv H (.bl b) = some "bool" := rfl
theorem tyv_int {i : Int} : tyv H (.int i) = some "int" := rfl
theorem tyv_str {z : Str} : tyv H (.str z) = some "str" := rfl
theorem tyv_lst (h : H a = some (.lst xs)) : tyv H (.ref a) = some "list" := by simp only [tyv, h]
theorem tyv_tup (h : H a = some (.tup xs)) : tyv H (.ref a) = some "tuple" := by simp only [tyv, h]
theorem tyv_dK (h : H a = some (.dK kvs)) : tyv H (.ref a) = some "dict" := by simp only [tyv, h]
end
def rIsB : List V → Hp → VK → Prop := fun xs H Q => ∃ x n, xs = [x, .ty n] ∧ ∃ t, tyv H x = some t ∧ ∃ b, kitB t n = some b ∧ Q (.bl b) H
theorem is_B {X : Cx} : CallR X (.builtin "isinstance") rIsB := CallR.imp call_isi fun xs H Q ⟨x, n, e, t, ht, b, hb, q⟩ => ⟨x, .ty n, .type t, .type n, b, e, .ty n, tyv_ok ht, kit_ty hb, q⟩
theorem kb_int_int : kitB "int" "int" = some true := by decide +kernel
theorem kb_int_bool : kitB "int" "bool" = some false := by decide +kernel
theorem kb_bool_int : kitB "bool" "int" = some true := by decide +kernel
theorem kb_bool_bool : kitB "bool" "bool" = some true := by decide +kernel
theorem kb_str_str : kitB "str" "str" = some true := by decide +kernel
theorem kb_int_str : kitB "int" "str" = some false := by decide +kernel
theorem kb_bool_str : kitB "bool" "str" = some false := by decide +kernel
theorem kb_none_str : kitB "NoneType" "str" = some false := by decide +kernel
theorem kb_list_str : kitB "list" "str" = some false := by decide +kernel
theorem kb_tuple_str : kitB "tuple" "str" = some false := by decide +kernel
theorem kb_dict_str : kitB "dict" "str" = some false := by decide +kernel
theorem kb_tuple_tuple : kitB "tuple" "tuple" = some true := by decide +kernel
theorem kb_list_list : kitB "list" "list" = some true := by decide +kernel
end Fx
/-! A def whose body begins with a token out (for str.replace): with cells too -/
namespace Fx
open PySem PySem.Spec PyProof.Rows L2
section
variable {M : Model} {A : Around} {E : Value → Shared → Prop} {s₀ s : Shared} {m cm : Str → Option Value} {env : Env}
theorem stLCT {n : Str} {v : Value} {Q : Unit → Shared → Prop} (x : InCallC s₀ env.locals m env.cells cm s) (hk : env.scope.kind = .function) (hl : env.kindOf n = some .local)
    (h : ∀ s', InCallC s₀ env.locals (fun y => if y = n then some v else m y) env.cells cm s' → 1 ≤ s'.toks → Q () s') : wpAny M A (storeName env n v) Q E s := by
  refine wpAny_storeName_local hl x.toInCall.ns (fun h' hn' hs' => h _ ⟨⟨?_, hn', fun b o e => ?_, x.toInCall.fresh⟩, fun k c hc => ?_, x.apart, x.above⟩ (Nat.le_add_left _ _)) (by rw [hk]; rfl)
  · obtain ⟨h₁, tk, rfl⟩ := x.toInCall.same
    exact ⟨h', _, rfl⟩
  · exact hs'.extBut b o (Nat.ne_of_lt (Nat.lt_of_lt_of_le (Heap.lt_size e) x.toInCall.fresh)) (x.toInCall.keep b o e)
  · exact (x.cell k c hc).sameBut hs' (Nat.ne_of_gt (x.above k c (mem_of_lookup hc)))
theorem bindParamsT (f : Str × Value → PUnit → Sem (ForInStep PUnit)) (hf : ∀ n v u, f (n, v) u = (do storeName env n v; pure (.yield ⟨⟩))) (hk : env.scope.kind = .function)
    (n : Str) (v : Value) (r : List (Str × Value)) (hl : env.kindOf n = some .local) (m cm : Str → Option Value) (s : Shared) (Q : PUnit → Shared → Prop) (x : InCallC s₀ env.locals m env.cells cm s)
    (hkind : ∀ y ∈ r, env.kindOf y.1 = some .local ∨ (env.kindOf y.1 = some .cell ∧ (env.cells.lookup y.1).isSome = true))
    (h : ∀ s', InCallC s₀ env.locals (bindL env.kindOf ((n, v) :: r) m) env.cells (bindC env.kindOf ((n, v) :: r) cm) s' → 1 ≤ s'.toks → Q ⟨⟩ s') : wpAny M A (forIn ((n, v) :: r) ⟨⟩ f) Q E s := by
  rw [List.forIn_cons, hf]
  refine wpAny_bind (wpAny_bind (stLCT x hk hl fun s' x' ht => wpAny_pure ?_))
  refine wpAny_with_toks ht (wpAny_bindParams f hf hk r _ _ s' (fun u s'' => 1 ≤ s''.toks → Q u s'') x' hkind fun s'' x'' ht' => h s'' ?_ ht')
  unfold bindL bindC
  rw [if_pos hl, if_pos hl]
  exact x''
end
section
variable {M : Model} {A : Around} {E : Value → Shared → Prop} {s : Shared}
theorem newFunctionEnvT {scope : Scope} {globals : Addr} {n : Str} {v : Value} {r : List (Str × Value)} {qual : Str} {func : Option Addr} {code : Value} {builtins : Addr} {Q : Env → Shared → Prop}
    (hk : scope.kind = .function) (hl : scope.names.lookup n = some .local)
    (hkind : ∀ x ∈ r, scope.names.lookup x.1 = some .local ∨ (scope.names.lookup x.1 = some .cell ∧ ((cellsFrom (s.heap.objs.size + 1) scope.names []).lookup x.1).isSome = true))
    (hQ : ∀ env, env = newEnv scope s.heap.objs.size globals (cellsFrom (s.heap.objs.size + 1) scope.names []) qual func code none builtins →
      ∀ s', InCallC s env.locals (bindL env.kindOf ((n, v) :: r) fun _ => none) env.cells (bindC env.kindOf ((n, v) :: r) fun _ => none) s' → 1 ≤ s'.toks → Q env s') :
    wpAny M A (newFunctionEnv scope globals [] ((n, v) :: r) qual func code none builtins) Q E s := by
  simp only [newFunctionEnv, Option.isSome_none, Bool.false_eq_true, if_false]
  refine wpAny_bind (wpAny_alloc ?_)
  refine wpAny_bind (wpAny_layCells _ (fun name kind cells => by cases hkc : kind == NameKind.cell <;> simp [hkc]) _ _ _ _ ?_)
  have ok := cellsFrom_ok scope.names (s.heap.push { cls := .type "frame", data := .dict #[] }) (s.heap.objs.size + 1) [] ⟨fun _ _ hm => (nomatch hm), List.Pairwise.nil⟩ (by rw [Heap.size_push]; exact Nat.le_refl _)
  rw [Heap.size_push] at ok
  rw [show ({ s with heap := s.heap.push { cls := .type "frame", data := .dict #[] } } : Shared).heap.objs.size = s.heap.objs.size + 1 from Heap.size_push ..]
  refine wpAny_bind (bindParamsT (s₀ := s) (env := newEnv scope s.heap.objs.size globals (cellsFrom (s.heap.objs.size + 1) scope.names []) qual func code none builtins)
    _ (fun _ _ _ => rfl) hk n v r hl (fun _ => none) (fun _ => none) _ _
    ⟨⟨⟨_, _, rfl⟩, (Heap.Ns.new s.heap (.type "frame")).keeps (pushCells_keeps _ _), fun b o e => pushCells_keeps _ _ b o (Heap.get?_push_of_some _ e), Nat.le_refl _⟩,
      fun n c hc => (ok.empty n c (mem_of_lookup hc)).1, ok.apart, fun n c hm => (ok.empty n c hm).2⟩
    hkind fun s' x ht => wpAny_pure (hQ _ rfl s' x ht))
end
/-- a def's body, a token out when it begins; its first parameter is a local -/
theorem fn_ofTC {CX : CXT} {P : Program} {w : World} {K : PySem.W.Frag} {mg : Str → Option Value} {base : Heap} {k : Nat} {f : Addr} {name qual : Str} {params : Arguments} {body : List Stmt} {scope : Scope} {dV kV doc pm cdv ct oc : Value} {an od : Option Addr}
    {osl : Array (Option Value)} {N ps : List Str} {x0 : Str} {sp : Sp} (lk : K.lookup f = some ⟨oc, od, .func (PySem.W.fnOf name qual params body scope dV kV doc pm an cdv ct), osl⟩) (hcd : PySem.W.codeIn K cdv qual = true) (S : FnScope N (x0 :: ps) scope)
    (h0 : scope.names.lookup x0 = some .local) (len : ∀ vs H Q E, sp vs H Q E → vs.length = (x0 :: ps).length)
    (hbody : ∀ (A : Around) (outer : List Env) (s : Shared) (H : Hp) (vs : List V) (Q : VK) (E : XK), Room k (A.deeper (envOfC qual scope s.heap.objs.size f cdv)) → sp vs H Q E →
      ∃ t, PSsT (cxOf CX P w K mg base N qual scope f cdv A outer s H E) body t ∧ t { nx := fun _ H' => Q .non H', rt := Q } (L2.start N vs) H) :
    FnOk P w K mg base CX (k + 1) f (PySem.W.fnOf name qual params body scope dV kV doc pm an cdv ct) (x0 :: ps) sp := by
  refine ⟨len, fun A outer s H args us vs Q E hr e0 hb r hsp => ?_⟩
  have hl := len _ _ _ _ hsp
  have KX : K.In s.heap := e0.mod.kin.keeps fun b o e => (e0.bs b o e).1
  have lim : s.heap.NoLimit := e0.mod.nolimit.keeps fun b o e => (e0.bs b o e).1
  have hul : us.length = (x0 :: ps).length := by rw [← r.length, hl]
  obtain ⟨u0, ur, rfl⟩ : ∃ u0 ur, us = u0 :: ur := by
    cases us with
    | nil => cases hul
    | cons a b => exact ⟨a, b, rfl⟩
  have hkind : ∀ y ∈ ps.zip ur, scope.names.lookup y.1 = some .local ∨ (scope.names.lookup y.1 = some .cell ∧ ((cellsFrom (s.heap.objs.size + 1) scope.names []).lookup y.1).isSome = true) := fun ⟨n, v⟩ hy => by
    rcases S.par n (List.mem_cons_of_mem _ (List.of_mem_zip hy).1) with q | q
    · exact .inl q
    · exact .inr ⟨q, PySem.W.cellsFrom_some _ _ _ (.inl q)⟩
  refine codeAny_call_function hr.depth (KX _ _ lk) rfl S.co S.gen rfl (PySem.W.codeRec_of KX hcd) (hb _ _ _ _ ?_)
  show wpAny _ _ (newFunctionEnv scope _ [] ((x0, u0) :: ps.zip ur) _ _ _ _ _) _ _ _
  refine newFunctionEnvT S.kind h0 hkind fun env he s1 x ht => ?_
  subst he
  refine ⟨lim.keeps x.toInCall.keep, codeAny_func ?_⟩
  obtain ⟨t, hT, hq⟩ := hbody A outer s H vs Q E (hr.deeper _) hsp
  have I : Inv (cxOf CX P w K mg base N qual scope f cdv A outer s H E) [] (L2.start N vs) H s1 := inv_start S hr.hd e0 hl r x
  refine wpAny_mono (hT [] s1 (L2.start N vs) H _ ht I hq) (fun fl s' hs => ?_) fun e s' hs => hs
  have fin : ∀ {σ' : L2.St} {H' : Hp} {v : V} {u : Value}, Inv (cxOf CX P w K mg base N qual scope f cdv A outer s H E) [] σ' H' s' → RelV v u → Q v H' → CE outer P w H s Q u s' :=
    fun {σ' H' v u} J rv q => ⟨v, H', J.os, J.bare, J.base, J.hok, rv, q⟩
  cases fl with
  | ret u =>
    obtain ⟨v, σ', H', J, rv, q⟩ := hs
    exact fin J rv q
  | next =>
    obtain ⟨σ', H', J, q⟩ := hs
    exact fin (v := V.non) (u := Value.none) J rfl q
  | brk =>
    obtain ⟨_, _, _, q⟩ := hs
    exact False.elim q
  | cont =>
    obtain ⟨_, _, _, q⟩ := hs
    exact False.elim q
/-! ### tests, calls, slices with a token out -/
section
variable {X : Cx}
def PTT (X : Cx) (e : Expr) (t : TT) : Prop := ∀ (pins : List (Addr × Obj)) (s : Shared) (σ : L2.St) (H : Hp) (Q : Bool → Hp → Prop), 1 ≤ s.toks → Inv X pins σ H s → t σ H Q → wpAny (model X.prog X.w) X.A (isTrue e X.env (eval e X.env)) (TP X pins σ Q) X.xe s
def PWT (X : Cx) (e : Expr) (t : TT) : Prop := ∀ (whole : Sem Value) (pins : List (Addr × Obj)) (s : Shared) (σ : L2.St) (H : Hp) (Q : Bool → Hp → Prop), 1 ≤ s.toks → Inv X pins σ H s → t σ H Q → wpAny (model X.prog X.w) X.A (isTrue e X.env whole) (TP X pins σ Q) X.xe s
theorem PWT.pt {e : Expr} {t : TT} (h : PWT X e t) : PTT X e t := h _
theorem ptt_val {e : Expr} {t : TE} (h : PET X e t) (he : ∀ whole, isTrue e X.env whole = (do let v ← whole; standAt e.pos; holding [v] (truthy v)) := by intro _; rfl) : PTT X e (tB t) := by
  intro pins s σ H Q ht I hw
  refine isTrue_plain (thn (h pins s σ H _ ht I hw) fun v s1 ⟨x, H1, I1, r1, q1⟩ => ?_) (he _)
  obtain ⟨d, rfl, q⟩ := q1
  cases r1
  exact wpAny_truthy_bool ⟨H1, I1, q⟩
theorem ptt_not {a : Expr} {tA : TT} {pos : Pos} (ha : PTT X a tA) : PTT X (.UnaryOp .Not a pos) (tNot tA) := by
  intro pins s σ H Q ht I h
  exact isTrue_not (ha pins s σ H (fun c H1 => Q (!c) H1) ht I h)
theorem pwt_or1 {a : Expr} {tA : TT} {pos : Pos} (ha : PTT X a tA) : PWT X (.BoolOp .Or [a] pos) tA := by
  intro wh pins s σ H Q ht I h
  refine isTrue_or (thn (ha pins s σ H Q ht I h) fun c s1 e => ?_)
  cases c with
  | false => exact isTrue_or_nil e
  | true => exact e
theorem pwt_or {a b : Expr} {rest : List Expr} {tA tB' : TT} {pos : Pos} (ha : PT X a tA) (hb : PWT X (.BoolOp .Or (b :: rest) pos) tB') : PWT X (.BoolOp .Or (a :: b :: rest) pos) (tOr tA tB') := by
  intro wh pins s σ H Q ht I h
  refine isTrue_or (wpAny_mono (wpAny_toks_of ht (ha.run pins s σ H _ I h)) (fun c s1 z => ?_) fun _ _ z => z.2)
  obtain ⟨ht1, H1, I1, q1⟩ := z
  cases c with
  | true => exact ⟨H1, I1, q1⟩
  | false => exact hb wh pins s1 σ H1 Q ht1 I1 q1
theorem pst_ifT {c : Expr} {a b : List Stmt} {tc : TT} {t u : TS} {pos : Pos} (hc : PTT X c tc) (ha : PSs X a t) (hb : PSs X b u) : PST X (.If c a b pos) (tIfS tc t u) := by
  intro pins s σ H D ht I h
  refine wpAny_If (thn (hc pins s σ H _ ht I h) fun d s1 ⟨H1, I1, q1⟩ => ?_)
  cases d with
  | true => exact ha.run pins s1 σ H1 D I1 q1
  | false => exact hb.run pins s1 σ H1 D I1 q1
theorem psst_s {st : Stmt} {rest : List Stmt} {t u : TS} (h1 : PS X st t) (h2 : PSsT X rest u) : PSsT X (st :: rest) (tSeq t u) := psst_cons (PST.of h1) h2
def noSt : Stmt := .Pass ⟨0, 0, 0, 0⟩
theorem drop_at : ∀ (l : List Stmt) (i : Nat), i < l.length → l.drop i = l.getD i noSt :: l.drop (i + 1)
  | [], i, h => absurd h (Nat.not_lt_zero _)
  | a :: l, 0, _ => rfl
  | a :: l, i + 1, h => drop_at l i (Nat.lt_of_succ_lt_succ h)
/-- PSsT behind a structure: a def that unfolds to a ∀ is walked by the elaborator after every application -/
structure PZ (X : Cx) (l : List Stmt) (t : TS) : Prop where
  run : PSsT X l t
structure PZ1 (X : Cx) (st : Stmt) (t : TS) : Prop where
  run : PST X st t
theorem PZ.of {l : List Stmt} {t : TS} (h : PSs X l t) : PZ X l t := ⟨PSsT.of h⟩
theorem pz_at1 {l : List Stmt} {i : Nat} {t u : TS} (h : i < l.length) (h1 : PZ1 X (l.getD i noSt) t) (h2 : PZ X (l.drop (i + 1)) u) : PZ X (l.drop i) (tSeq t u) := by
  refine ⟨?_⟩
  rw [drop_at l i h]
  exact psst_cons h1.run h2.run
theorem pz_at {l : List Stmt} {i : Nat} {t u : TS} (h : i < l.length) (h1 : PS X (l.getD i noSt) t) (h2 : PZ X (l.drop (i + 1)) u) : PZ X (l.drop i) (tSeq t u) := pz_at1 h ⟨PST.of h1⟩ h2
theorem pz_at0 {l : List Stmt} {t : TS} (h : PZ X (l.drop 0) t) : PZ X l t := h
theorem pz_ifT {c : Expr} {a b : List Stmt} {tc : TT} {t u : TS} {pos : Pos} (hc : PTT X c tc) (ha : PSs X a t) (hb : PSs X b u) : PZ1 X (.If c a b pos) (tIfS tc t u) := ⟨pst_ifT hc ha hb⟩
theorem pss_at {l : List Stmt} {i : Nat} {t u : TS} (h : i < l.length) (h1 : PS X (l.getD i noSt) t) (h2 : PSs X (l.drop (i + 1)) u) : PSs X (l.drop i) (tSeq t u) := by
  rw [drop_at l i h]
  exact pss_cons h1 h2
theorem pss_at0 {l : List Stmt} {t : TS} (h : PSs X (l.drop 0) t) : PSs X l t := h
theorem pet_slice {e : Expr} {te : TE} {lo hi : Option Expr} {tl th : TO} {p2 pos : Pos} {r : V → Option Int → Option Int → Hp → VK → Prop} (hr : SlR X r) (he : PET X e te) (hl : PO X lo tl) (hu : PO X hi th) : PET X (.Subscript e (.Slice lo hi none p2) pos) (tSl r te tl th) := by
  intro pins s σ H Q ht I h
  refine Subscript_ (thn (he pins s σ H _ ht I h) fun v s1 ⟨x, H1, I1, r1, q1⟩ => ?_)
  refine wpAny_Slice (thn (hl.run pins s1 σ H1 _ I1 q1) fun vl s2 ⟨l, H2, I2, pl, q2⟩ => thn (hu.run pins s2 σ H2 _ I2 q2) fun vu s3 ⟨u, H3, I3, pu, q3⟩ => ?_)
  rw [evalPart_none]
  refine wpAny_pure ?_
  have I4 : Inv X pins σ H3 { s3 with heap := s3.heap.push { cls := .type "slice", data := .fields #[vl, vu, .none] } } := I3.kept (t' := s3.toks) fun b ob q => Heap.get?_push_of_some _ q
  obtain ⟨T, id, hT, ht, hg⟩ := hr pins { s3 with heap := s3.heap.push { cls := .type "slice", data := .fields #[vl, vu, .none] } } σ H3 x v vl vu l u s3.heap.objs.size Q I4 r1 (Heap.IsSliceOf.new ..) pl pu q3
  show wpAny (model X.prog X.w) X.A (subscriptTail e (.Slice lo hi none p2) v (.ref s3.heap.objs.size)) (EP X pins σ Q) X.xe { s3 with heap := s3.heap.push { cls := .type "slice", data := .fields #[vl, vu, .none] } }
  exact tail_any (ops := [.ref s3.heap.objs.size, v]) ht hT hg (by with_unfolding_all rfl)
theorem pet_cal {x : Str} {ps : List Str} {sp : Sp} {k : Nat} {CX : CXT} {E : XK} {e : Expr} {es : List Expr} {t : TA} {p pos : Pos} (C : Cal X.prog X.w X.K X.mg X.base CX k x ps sp) (hr : Room k X.A) (hx : Passes CX X E) (ha : PAT X (e :: es) t) (hg : Gl X x := by rfl) (hdb : (x == ("__debug__" : Str)) = false := by decide)
    (hs : (e :: es).all nostar = true := by rfl) : PET X (.Call (.Name x p) (e :: es) [] pos) (tCall sp [] E t) := by
  obtain ⟨f, fd, g, kp, b, F⟩ := C.ex
  simp only [List.all_cons, Bool.and_eq_true] at hs
  intro pins s σ H Q ht I h
  refine wpAny_Call_Name_kw (ld_glob I hg g ?_ hdb)
  refine PySem.W.callWith_K (h₀ := X.base) I.ok.mod.kin kp (thn (ha pos pins s σ H _ ht I h) fun us s1 ⟨vs, H1, I1, r, q⟩ => ⟨I1.kIn, ?_⟩) (star_ok hs.1) (back_ok hs.2)
  exact run_fn F hr b .nil hx I1 r q
end
section
variable {P : Program} {w : World} {K : PySem.W.Frag} {mg : Str → Option Value} {base : Heap} {x x0 : Str} {st : Stmt} {N ps : List Str} {k : Nat} {sp : Sp}
theorem Src.calT (S : Src K mg x st) (sc : FnScope N (x0 :: ps) (defScope st)) (bn : BindP x st (x0 :: ps)) (h0 : (defScope st).names.lookup x0 = some .local) (len : ∀ vs H Q E, sp vs H Q E → vs.length = (x0 :: ps).length)
    (hbody : ∀ (f : Addr) (cdv : Value) (A : Around) (outer : List Env) (s : Shared) (H : Hp) (vs : List V) (Q : VK) (E : XK), Room k (A.deeper (envOfC x (defScope st) s.heap.objs.size f cdv)) → sp vs H Q E →
      ∃ t, PZ (cxOf CX0 P w K mg base N x (defScope st) f cdv A outer s H E) (defBody st) t ∧ t { nx := fun _ H' => Q .non H', rt := Q } (L2.start N vs) H) : Cal P w K mg base CX0 (k + 1) x (x0 :: ps) sp := by
  obtain ⟨f, fd, g, F⟩ := S
  refine ⟨f, fd, g, F.kp, F.bindsN bn, ?_⟩
  obtain ⟨oc, od, dV, kV, doc, pm, an, cdv, ct, osl, rfl, lk, hcd, _, _⟩ := F.ex
  exact fn_ofTC lk hcd sc h0 len fun A outer s H vs Q E hr hsp => by
    obtain ⟨t, h1, h2⟩ := hbody f cdv A outer s H vs Q E hr hsp
    exact ⟨t, h1.run, h2⟩
end
/-! ### the law's own def -/
section
variable {P : Program} {w : World} {K : PySem.W.Frag} {mg : Str → Option Value} {base : Heap} {x x0 : Str} {st : Stmt} {N ps : List Str} {k : Nat} {sp : Sp} {f : Addr} {fd : FuncData}
theorem lawT (F : FunD K x x (defArgs st) (defBody st) (defScope st) [] [] f fd) (sc : FnScope N (x0 :: ps) (defScope st)) (h0 : (defScope st).names.lookup x0 = some .local) (len : ∀ vs H Q E, sp vs H Q E → vs.length = (x0 :: ps).length)
    (hbody : ∀ (f : Addr) (cdv : Value) (A : Around) (outer : List Env) (s : Shared) (H : Hp) (vs : List V) (Q : VK) (E : XK), Room k (A.deeper (envOfC x (defScope st) s.heap.objs.size f cdv)) → sp vs H Q E →
      ∃ t, PZ (cxOf CX0 P w K mg base N x (defScope st) f cdv A outer s H E) (defBody st) t ∧ t { nx := fun _ H' => Q .non H', rt := Q } (L2.start N vs) H) : FnOk P w K mg base CX0 (k + 1) f fd (x0 :: ps) sp := by
  obtain ⟨oc, od, dV, kV, doc, pm, an, cdv, ct, osl, rfl, lk, hcd, _, _⟩ := F.ex
  exact fn_ofTC lk hcd sc h0 len fun A outer s H vs Q E hr hsp => by
    obtain ⟨t, h1, h2⟩ := hbody f cdv A outer s H vs Q E hr hsp
    exact ⟨t, h1.run, h2⟩
theorem law0 (F : FunD K x x (defArgs st) (defBody st) (defScope st) [] [] f fd) (sc : FnScope N ps (defScope st)) (len : ∀ vs H Q E, sp vs H Q E → vs.length = ps.length)
    (hbody : ∀ (f : Addr) (cdv : Value) (A : Around) (outer : List Env) (s : Shared) (H : Hp) (vs : List V) (Q : VK) (E : XK), Room k (A.deeper (envOfC x (defScope st) s.heap.objs.size f cdv)) → sp vs H Q E →
      ∃ t, PSs (cxOf CX0 P w K mg base N x (defScope st) f cdv A outer s H E).nox (defBody st) t ∧ t { nx := fun _ H' => Q .non H', rt := Q } (L2.start N vs) H) : FnOk P w K mg base CX0 (k + 1) f fd ps sp := by
  refine F.ok sc len fun cdv A outer s H vs Q E hr hsp => ?_
  obtain ⟨t, h, q⟩ := hbody f cdv A outer s H vs Q E hr hsp
  exact ⟨t, h.nox, q⟩
theorem cst_int {i : Int} (h : ∃ t, mg x = some (.int i t)) : Cst mg x (.int i) := by
  obtain ⟨t, h⟩ := h
  exact ⟨_, h, ⟨t, rfl⟩⟩
theorem cst_str {z : Str} (h : ∃ t, mg x = some (.str z t)) : Cst mg x (.str z) := by
  obtain ⟨t, h⟩ := h
  exact ⟨_, h, ⟨t, rfl⟩⟩
end
end Fx
/-! for i, x in enumerate(t), t a tuple; a list or a tuple -/
namespace Fx
open PySem PySem.Spec PyProof.Rows L2
open AutoSeq1 (wpAny_loadPart')
theorem enum_newT (l : Addr) (items : Array Value) (n : Nat) (dct : Option Addr) (sl : Array (Option Value)) :
    Meets (Builtin.«enumerate.__new__» ⟨[.type "enumerate", .ref l], []⟩) (fun _ R s => s.heap.get? l = some { cls := .type "tuple", dict := dct, data := .seq items n, slots := sl } ∧
      R (.ok (.ret (.ref (s.heap.push { cls := .type "tuple_iterator", data := .fields #[.ref l, .int 0 0] }).objs.size)))
        { s with heap := (s.heap.push { cls := .type "tuple_iterator", data := .fields #[.ref l, .int 0 0] }).push { cls := .type "enumerate", data := .fields #[.none, .bool false, .ref s.heap.objs.size, rawInt 0, .none, .none] } }) :=
  .of_wp fun prog w A R s h => by
    obtain ⟨hp, g, d, tk, os⟩ := s
    obtain ⟨hl, h⟩ := h
    have hsub := sub_enumerate
    have hL : Heap.IsTuple (Shared.heap ⟨hp, g, d, tk, os⟩) l items := ⟨_, hl, rfl, n, rfl⟩
    wp_walk using wpAny_loadPart' hl
    refine wpAny_stack_any fun st => wpAny_pure ?_
    split
    · rename_i c _ _ _ _ _
      cases (c == Value.type "enumerate")
      · wp_walk using wpAny_loadPart' hl, wpAny_pyIter_tuple hL
        exact ⟨_, rfl, h⟩
      · wp_walk using wpAny_loadPart' hl, wpAny_pyIter_tuple hL
        exact ⟨_, rfl, h⟩
    · wp_walk using wpAny_loadPart' hl, wpAny_pyIter_tuple hL
      exact ⟨_, rfl, h⟩
theorem call_enumT {prog : Program} {w : World} {A : Around} {E : Value → Shared → Prop} {s : Shared} {l : Addr} {items : Array Value} {Q : Value → Shared → Prop} (hL : s.heap.IsTuple l items)
    (h : ∀ h', IsEnum h' (s.heap.objs.size + 1) s.heap.objs.size 0 .none → h'.IsTupleIter s.heap.objs.size l 0 → h'.objs.size = s.heap.objs.size + 2 →
      (∀ b o, s.heap.get? b = some o → h'.get? b = some o) → Q (.ref (s.heap.objs.size + 1)) { s with heap := h' }) :
    wpAny (model prog w) A (call (.type "enumerate") [.ref l]) Q E s := by
  obtain ⟨⟨c, dct, dt, sl⟩, hl, hc, n, hd⟩ := hL
  replace hc : c = .type "tuple" := hc
  replace hd : dt = .seq items n := hd
  subst hc hd
  refine callType_new F.called_enumerate (by decide) (F.typeCall_enumerate_1 _) (F.newCall_enumerate_1 _) (fun obj => F.args_object_init_2 obj _) F.entry_enumerate_new
    (enum_newT l items n dct sl) ⟨hl, ?_⟩
  have hz : (s.heap.push { cls := .type "tuple_iterator", data := .fields #[.ref l, .int 0 0] }).objs.size = s.heap.objs.size + 1 := Heap.size_push ..
  show _ ∧ _
  rw [hz]
  have he : IsEnum ((s.heap.push { cls := .type "tuple_iterator", data := .fields #[.ref l, .int 0 0] }).push
      { cls := .type "enumerate", data := .fields #[.none, .bool false, .ref s.heap.objs.size, rawInt 0, .none, .none] }) (s.heap.objs.size + 1) s.heap.objs.size 0 .none := by
    have := Heap.get?_push_size (s.heap.push { cls := .type "tuple_iterator", data := .fields #[.ref l, .int 0 0] })
      (o := { cls := .type "enumerate", data := .fields #[.none, .bool false, .ref s.heap.objs.size, rawInt 0, .none, .none] }) rfl
    rw [hz] at this
    exact this
  exact ⟨⟨_, he, rfl⟩, h _ he ⟨_, Heap.get?_push_of_some _ (Heap.get?_push_size _ rfl), rfl, rfl⟩ (by rw [Heap.size_push, hz]) fun b o x => Heap.get?_push_of_some _ (Heap.get?_push_of_some _ x)⟩
def IteT (K : PySem.W.Frag) (a : Addr) : It :=
  ⟨fun i H => ∃ (xs : List V) (x : V), SqT K H a xs ∧ xs[i]? = some x, fun i H v H' => ∃ T x, v = .ref T ∧ H T = none ∧ H' = upd H T (.tup [.int (i : Nat), x]) ∧ ∀ xs, SqT K H a xs → xs[i]? = some x, fun i H => ∃ xs : List V, SqT K H a xs ∧ xs.length = i⟩
theorem turn_enumT {P : Program} {w : World} {K : PySem.W.Frag} {elts : List Expr} {kk : Nat} {tpos : Pos} (a e it : Addr) :
    Turn P w K (.Tuple elts kk tpos) (IteT K a) [e, it] e (fun i h => (∃ old, IsEnum h e it ((i : Nat) : Int) old) ∧ h.IsTupleIter it a i ∧ e ≠ it ∧ a ≠ e ∧ a ≠ it) where
  mem := by simp
  obj := fun i h st b hb => by
    obtain ⟨⟨old, he⟩, ⟨o, ho, hc, hd⟩, _⟩ := st
    have e' : b = e ∨ b = it := by simpa using hb
    rcases e' with z | z
    · rw [z]
      exact ⟨_, he, fun v q => nomatch q⟩
    · rw [z]
      exact ⟨o, ho, fun v q => by rw [hd] at q; cases q⟩
  keep := fun i h h' st k => let ⟨⟨old, he⟩, ⟨o, ho, hr⟩, hne⟩ := st; ⟨⟨old, k e (by simp) _ he⟩, ⟨o, k it (by simp) o ho, hr⟩, hne⟩
  item := by
    intro X hP hw hK hc i pins s σ H E I hf st hg
    subst hP hw hK
    obtain ⟨⟨old, he⟩, hit, hne, hae, hai⟩ := st
    obtain ⟨xs, x, hq, hx⟩ := hg
    obtain ⟨its, rv, p, hz⟩ := I.tuple hq
    obtain ⟨u0, hu0, ru⟩ := rv.get hx
    have hel : e < s.heap.objs.size := Heap.lt_size he
    have hil : it < s.heap.objs.size := by obtain ⟨_, q, _⟩ := hit; exact Heap.lt_size q
    have D := Draws.tuple (prog := X.prog) (w := X.w) (A := X.A.in1) (show X.A.in1.handled = none from I.ok.hd hc) it a hai its.toArray
    have hin : i < its.toArray.size := by
      have := (List.getElem?_eq_some_iff.mp hu0).1
      simpa using this
    refine wpAny_pyNext_enum_itemD D he ⟨hit, p⟩ hin hne (by simp [hne, Ne.symm hae]) fun u h' tk hu ho hit' hT hsz hk => ?_
    have eu : u = u0 := by
      have h1 : its[i]? = some u := by simpa using hu
      rw [hu0] at h1
      exact (Option.some.inj h1).symm
    subst eu
    refine ⟨_, rfl, wpAny_letOwnedTupleGo_enum (s := { s with heap := h', toks := tk + 1 }) ho fun h'' he' sb => ?_⟩
    have hT2 : h''.get? s.heap.objs.size = some { cls := .type "tuple", data := .seq #[.int i tk, u] } := (sb.2 _ (Nat.ne_of_gt hel)).trans hT
    have new : ObjOk X.prog X.w (upd H s.heap.objs.size (.tup [.int (i : Nat), x])) h'' s.heap.objs.size (.tup [.int (i : Nat), x]) :=
      ⟨by show 2 ≤ sizeLine; decide, [.int i tk, u], .cons ⟨_, rfl⟩ (.cons ru .nil), ⟨_, hT2, rfl, _, rfl⟩⟩
    have I1 : Inv X pins σ (upd H s.heap.objs.size (.tup [.int (i : Nat), x])) { s with heap := h'', toks := tk + 1 } :=
      I.turnedNew (ch := [e, it]) (fun b ob hb q => (sb.2 b (fun z => hb (by simp [z]))).trans (hk b ob (fun z => hb (by simp [z])) (fun z => hb (by simp [z])) q)) hf (Nat.le_refl _) new
    refine ⟨.ref s.heap.objs.size, _, I1, rfl, ⟨_, x, rfl, I.hok.fresh (Nat.le_refl _), rfl, fun ys hy => by rw [I.tuple_inj hy hq]; exact hx⟩, ⟨⟨u, ?_⟩, ?_, hne, hae, hai⟩, fun b hb => ?_⟩
    · have e1 : ((i + 1 : Nat) : Int) = (i : Int) + 1 := by omega
      rw [e1]
      exact he'
    · obtain ⟨⟨o, ho2, hr⟩, _⟩ := hit'
      exact ⟨o, (sb.2 it (Ne.symm hne)).trans ho2, hr⟩
    · have hb' : b < s.heap.objs.size := by
        have e' : b = e ∨ b = it := by simpa using hb
        rcases e' with z | z
        · rw [z]; exact hel
        · rw [z]; exact hil
      rw [upd_ne (Nat.ne_of_lt hb')]
      exact (hf b hb).1
  done := by
    intro X hP hw hK hc i pins s σ H E I hf st hg
    subst hP hw hK
    obtain ⟨⟨old, he⟩, hit, hne, hae, hai⟩ := st
    obtain ⟨xs, hq, hx⟩ := hg
    obtain ⟨its, rv, p, hz⟩ := I.tuple hq
    obtain ⟨f0, f1, f2, f3, f4, f5⟩ := hf it (by simp)
    have hl := rv.length
    have D := Draws.tuple (prog := X.prog) (w := X.w) (A := X.A.in1) (show X.A.in1.handled = none from I.ok.hd hc) it a hai its.toArray
    have hi : i = its.toArray.size := by
      rw [List.size_toArray]
      omega
    subst hi
    exact wpAny_pyNext_enum_endD D he ⟨hit, p⟩ fun h' eb => ⟨rfl, I.turned (t' := s.toks) (fun b o hb q => eb b o hb q) f0 f1 f3 f4 f5⟩
  self := fun A i s Q E st h => let ⟨⟨_, he⟩, _⟩ := st; wpAny_pyIter_enum he h
def iEnumT (K : PySem.W.Frag) (ta : TA) : TI := fun σ H R => ta σ H fun vs H1 => ∃ a xs, vs = [.ref a] ∧ SqT K H1 a xs ∧ R (IteT K a) H1
section
variable {X : Cx} {e : Expr} {ta : TA} {p pos tpos : Pos} {elts : List Expr} {kk : Nat}
theorem pi_enumT (hg : Gl X "enumerate") (hm : X.mg "enumerate" = none) (ha : PA X [e] ta) (hs : starEach [e] X.env = [(false, eval e X.env)] := by rfl) :
    PI X (.Tuple elts kk tpos) (.Call (.Name "enumerate" p) [e] [] pos) (iEnumT X.K ta) := by
  refine ⟨fun pins s σ H R I h => ?_⟩
  refine Call_ (ld_blt I hg hm boot_enumerate (PyProof.Rows.callWith_type1 (thn (ha.run pos pins s σ H _ I h) fun us s1 ⟨vs, H1, I1, r1, q1⟩ => ?_) hs rfl))
  obtain ⟨a, xs, ex, hq, q⟩ := q1
  subst ex
  cases r1 with
  | cons r rr =>
    cases rr
    cases r
    obtain ⟨its, rv, p', hz⟩ := I1.tuple hq
    have hla : a < s1.heap.objs.size := by
      obtain ⟨o, ho, _⟩ := p'
      exact Heap.lt_size ho
    refine call_enumT p' fun h' he hit hsz hk => wpAny_pyIter_enum he ?_
    have I2 : Inv X pins σ H1 { s1 with heap := h' } := I1.kept (t' := s1.toks) hk
    refine ⟨s1.heap.objs.size + 1, [s1.heap.objs.size + 1, s1.heap.objs.size], _, _, H1, rfl, I2, turn_enumT a (s1.heap.objs.size + 1) s1.heap.objs.size, ⟨⟨.none, he⟩, hit, Nat.succ_ne_self _, Nat.ne_of_lt (Nat.lt_succ_of_lt hla), Nat.ne_of_lt hla⟩, fun b hb => ?_, q⟩
    have e' : b = s1.heap.objs.size + 1 ∨ b = s1.heap.objs.size := by simpa using hb
    have hle : s1.heap.objs.size ≤ b := by
      rcases e' with z | z
      · rw [z]; exact Nat.le_add_right _ _
      · rw [z]; exact Nat.le_refl _
    exact I1.fpOk hle (I1.hok.fresh hle)
/-- a list or a tuple -/
def iEnumQ (K : PySem.W.Frag) (ta : TA) : TI := fun σ H R => iEnum K ta σ H R ∨ iEnumT K ta σ H R
theorem pi_enumQ (hg : Gl X "enumerate") (hm : X.mg "enumerate" = none) (ha : PA X [e] ta) (hs : starEach [e] X.env = [(false, eval e X.env)] := by rfl) :
    PI X (.Tuple elts kk tpos) (.Call (.Name "enumerate" p) [e] [] pos) (iEnumQ X.K ta) := by
  refine ⟨fun pins s σ H R I h => ?_⟩
  rcases h with h | h
  · exact (pi_enum hg hm ha hs).run pins s σ H R I h
  · exact (pi_enumT hg hm ha hs).run pins s σ H R I h
def iQ (K : PySem.W.Frag) (tl : TE) : TI := fun σ H R => iList K tl σ H R ∨ iTup K tl σ H R
theorem pi_Q {tg l : Expr} {tl : TE} (hl : PE X l tl) : PI X tg l (iQ X.K tl) := by
  refine ⟨fun pins s σ H R I h => ?_⟩
  rcases h with h | h
  · exact (pi_list hl).run pins s σ H R I h
  · exact (pi_tup hl).run pins s σ H R I h
end
/-- a list or a tuple that stands in the tracked heap -/
def Sq (H : Hp) (p : Addr) (xs : List V) : Prop := H p = some (.lst xs) ∨ H p = some (.tup xs)
theorem Sq.same {H H' : Hp} {p : Addr} {xs : List V} (h : Sq H p xs) (s : Same H H') : Sq H' p xs := by
  rcases h with h | h
  · exact .inl (s _ _ h)
  · exact .inr (s _ _ h)
section
variable {X : Cx}
def rIxQ : R2 := fun x y H Q => ∃ p i xs, x = .ref p ∧ y = .int i ∧ Sq H p xs ∧ ∃ v, atI xs i = some v ∧ Q v H
theorem ix_Q : IxR X rIxQ := by
  have h1 : IxR X rIxLt := ix_L
  have h2 : IxR X rIxTt := ix_T
  intro ve se pins s σ H x y v u Q I rx ry h hs
  obtain ⟨p, i, xs, e1, e2, hq, w, hw, q⟩ := h
  rcases hq with hq | hq
  · exact h1 ve se pins s σ H x y v u Q I rx ry ⟨p, i, xs, e1, e2, hq, w, hw, q⟩ hs
  · exact h2 ve se pins s σ H x y v u Q I rx ry ⟨p, i, xs, e1, e2, hq, w, hw, q⟩ hs
def rLenQ : List V → Hp → VK → Prop := fun vs H Q => ∃ p xs, vs = [.ref p] ∧ Sq H p xs ∧ Q (.int (xs.length : Nat)) H
theorem len_Q : CallR X (.builtin "len") rLenQ := CallR.imp call_len_seq fun vs H Q ⟨p, ys, e, h, q⟩ => ⟨p, ys, e, h.elim (fun h => .inl (.inl (.inl h))) (fun h => .inr (.inl (.inl h))), q⟩
def rTupQ : List V → Hp → VK → Prop := fun vs H Q => ∃ p xs, vs = [.ref p] ∧ Sq H p xs ∧ ∀ l H', Same H H' → H' l = some (.tup xs) → Q (.ref l) H'
theorem tup_Q : CallR X (.type "tuple") rTupQ := CallR.imp call_tuple_of fun vs H Q ⟨p, ys, e, h, q⟩ => ⟨p, ys, e, h.elim (fun h => .inl ⟨.inl (.inl h), fun l nl => q l _ (same_new nl) upd_same⟩) (fun h => .inr ⟨.inl (.inl h), q p H (Same.refl H) h⟩)⟩
def rTupL : List V → Hp → VK → Prop := fun vs H Q => ∃ p xs, vs = [.ref p] ∧ H p = some (.lst xs) ∧ ∀ l, H l = none → Q (.ref l) (upd H l (.tup xs))
theorem tup_L : CallR X (.type "tuple") rTupL := CallR.imp call_tuple_of fun vs H Q ⟨p, ys, e, h, q⟩ => ⟨p, ys, e, .inl ⟨.inl (.inl h), q⟩⟩
end
/-- the loop over enumerate(a list or a tuple) -/
theorem for_enumQ {K : PySem.W.Frag} {ta : TA} {a : Addr} {xs : List V} {g : TG} {tb : TS} {D : Ends} {σ : L2.St} {H : Hp} (hta : ∀ Q : List V → Hp → Prop, Q [.ref a] H → ta σ H Q) (hq : Sq H a xs) (Pv : Nat → L2.St → Hp → Prop) (h0 : Pv 0 σ H)
    (hl : ∀ i σ H', Pv i σ H' → ∀ o, H a = some o → H' a = some o)
    (hs : ∀ i x T σ H, xs[i]? = some x → Pv i σ H → H T = none → g (.ref T) σ (upd H T (.tup [.int (i : Nat), x])) fun σ' H' => tb { D with nx := Pv (i + 1), ct := Pv (i + 1), bk := D.nx } σ' H')
    (hd : ∀ σ H, Pv xs.length σ H → D.nx σ H) : tFor (iEnumQ K ta) g tb D σ H := by
  rcases hq with hq | hq
  · refine .inl (hta _ ⟨a, xs, rfl, .inl (.inl hq), ?_⟩)
    refine ⟨fun i m σ H' => m = xs.length - i ∧ i ≤ xs.length ∧ Pv i σ H', ⟨_, rfl, Nat.zero_le _, h0⟩, ?_⟩
    rintro i m σ H' ⟨rfl, hi, p⟩
    have hk : SqL K H' a xs := .inl (.inl (hl i σ H' p _ hq))
    by_cases hlt : i < xs.length
    · refine .inr ⟨⟨xs, xs[i], hk, by simp [hlt]⟩, fun σ' H' => Pv (i + 1) σ' H', fun σ' H' q => ⟨xs.length - (i + 1), by omega, rfl, hlt, q⟩, fun x H2 hy => ?_⟩
      obtain ⟨T, c, rfl, nT, rfl, hc⟩ := hy
      exact hs i c T σ H' (hc xs hk) p nT
    · have ei : i = xs.length := by omega
      subst ei
      exact .inl ⟨⟨xs, hk, Nat.le_refl _⟩, hd σ H' p⟩
  · refine .inr (hta _ ⟨a, xs, rfl, .inl (.inl hq), ?_⟩)
    refine ⟨fun i m σ H' => m = xs.length - i ∧ i ≤ xs.length ∧ Pv i σ H', ⟨_, rfl, Nat.zero_le _, h0⟩, ?_⟩
    rintro i m σ H' ⟨rfl, hi, p⟩
    have hk : SqT K H' a xs := .inl (.inl (hl i σ H' p _ hq))
    by_cases hlt : i < xs.length
    · refine .inr ⟨⟨xs, xs[i], hk, by simp [hlt]⟩, fun σ' H' => Pv (i + 1) σ' H', fun σ' H' q => ⟨xs.length - (i + 1), by omega, rfl, hlt, q⟩, fun x H2 hy => ?_⟩
      obtain ⟨T, c, rfl, nT, rfl, hc⟩ := hy
      exact hs i c T σ H' (hc xs hk) p nT
    · have ei : i = xs.length := by omega
      subst ei
      exact .inl ⟨⟨xs, hk, rfl⟩, hd σ H' p⟩
section
variable {X : Cx}
theorem shaped_flatT {xs : List V} (hx : xs.all isF = true) : SeqAt.shaped (.tuple (xs.map datV)) = true := by
  obtain ⟨h1, h2⟩ := lay_flat hx
  simp [SeqAt.shaped, PyData.canLay0, PyData.depth, h1, h2]
def rNeL : R2 := fun x y H Q => ∃ p q xs ys, x = .ref p ∧ y = .ref q ∧ H p = some (.lst xs) ∧ H q = some (.lst ys) ∧ xs.all isF = true ∧ ys.all isF = true ∧ Q (.bl (!decide (xs = ys))) H
def rNeT : R2 := fun x y H Q => ∃ p q xs ys, x = .ref p ∧ y = .ref q ∧ H p = some (.tup xs) ∧ H q = some (.tup ys) ∧ xs.all isF = true ∧ ys.all isF = true ∧ Q (.bl (!decide (xs = ys))) H
def rEqT : R2 := fun x y H Q => ∃ p q xs ys, x = .ref p ∧ y = .ref q ∧ H p = some (.tup xs) ∧ H q = some (.tup ys) ∧ xs.all isF = true ∧ ys.all isF = true ∧ Q (.bl (decide (xs = ys))) H
theorem ne_LL (hu : X.A.units + 64 < cLine) : OpR X (compareOp .NotEq) rNeL := by
  intro pins s σ H x y v u Q I rx ry h
  obtain ⟨p, q, xs, ys, rfl, rfl, hp, hq, fx, fy, k⟩ := h
  refine op_neD hu pins s σ H _ _ v u Q I rx ry ⟨.list (xs.map datV), .list (ys.map datV), .lst (.inl (.inl hp)) (dpAll_dat fx), .lst (.inl (.inl hq)) (dpAll_dat fy), shaped_flat fx, shaped_flat fy, ?_⟩
  rw [PyData.eqv, eqvAll_dat fx fy]
  exact k
theorem ne_TT (hu : X.A.units + 64 < cLine) : OpR X (compareOp .NotEq) rNeT := by
  intro pins s σ H x y v u Q I rx ry h
  obtain ⟨p, q, xs, ys, rfl, rfl, hp, hq, fx, fy, k⟩ := h
  refine op_neD hu pins s σ H _ _ v u Q I rx ry ⟨.tuple (xs.map datV), .tuple (ys.map datV), .tup (.inl (.inl hp)) (dpAll_dat fx), .tup (.inl (.inl hq)) (dpAll_dat fy), shaped_flatT fx, shaped_flatT fy, ?_⟩
  rw [PyData.eqv, eqvAll_dat fx fy]
  exact k
theorem eq_TT (hu : X.A.units + 64 < cLine) : OpR X (compareOp .Eq) rEqT := by
  intro pins s σ H x y v u Q I rx ry h
  obtain ⟨p, q, xs, ys, rfl, rfl, hp, hq, fx, fy, k⟩ := h
  refine op_eqD hu pins s σ H _ _ v u Q I rx ry ⟨.tuple (xs.map datV), .tuple (ys.map datV), .tup (.inl (.inl hp)) (dpAll_dat fx), .tup (.inl (.inl hq)) (dpAll_dat fy), shaped_flatT fx, shaped_flatT fy, ?_⟩
  rw [PyData.eqv, eqvAll_dat fx fy]
  exact k
theorem all_int (ns : List Int) : (ns.map V.int).all isF = true := by simp [isF]
theorem map_int_inj {a b : List Int} : a.map V.int = b.map V.int ↔ a = b := by
  constructor
  · intro h
    induction a generalizing b with
    | nil => cases b with
      | nil => rfl
      | cons y b => cases h
    | cons x a ih => cases b with
      | nil => cases h
      | cons y b =>
        simp only [List.map_cons, List.cons.injEq, V.int.injEq] at h
        rw [h.1, ih h.2]
  · intro h
    rw [h]
/-- len of a list or a tuple -/
def rMin2 : List V → Hp → VK → Prop := fun xs H Q => ∃ i j, xs = [.int i, .int j] ∧ Q (.int (if j < i then j else i)) H
theorem min_2 (hc : X.calm = true) : CallR X (.builtin "min") rMin2 := call_min2 hc
def rAnd255 : R2 := fun x y H Q => ∃ i : Int, x = .int i ∧ y = .int 255 ∧ Q (.int (i % 256)) H
theorem and_255 {X : Cx} : OpR X (binaryOp .BitAnd) rAnd255 := by
  intro pins s σ H x y v u Q I rx ry h
  obtain ⟨i, rfl, rfl, q⟩ := h
  exact op_andM pins s σ H _ _ v u Q I rx ry ⟨i, 8, rfl, rfl, q⟩
def rNonIs : R2 := fun x y H Q => y = .non ∧ Q (.bl (decide (x = .non))) H
theorem op_isNon : OpR X (compareOp .Is) rNonIs := op_isN
def rNonNot : R2 := fun x y H Q => y = .non ∧ Q (.bl (!decide (x = .non))) H
theorem op_notNon : OpR X (compareOp .IsNot) rNonNot := op_notN
def rIns : V → List V → Hp → VK → Prop := fun x vs H Q => ∃ (l : Addr) (xs : List V) (i : Int) (y : V), x = .ref l ∧ vs = [.int i, y] ∧ H l = some (.lst xs) ∧ xs.length < sizeLine ∧ 0 ≤ i ∧ i < 2 ^ 63 ∧ Q .non (upd H l (.lst (xs.take i.toNat ++ [y] ++ xs.drop i.toNat)))
theorem mt_ins : MtR X "list.insert" rIns := mt_insert
open AutoSeq1 in
theorem extend_tuple (l : Addr) (items : Array Value) (n : Nat) (b : Addr) (items2 : Array Value) (n2 : Nat) (dct : Option Addr) (sl : Array (Option Value)) (hs0 : ¬(!items.isEmpty && Builtin.List.listTooLong (items.size + items2.size)) = true) (hs1 : items.size ≤ sizeLine) (hs2 : items.size + items2.size ≤ sizeLine + 1) :
    Meets (Builtin.«list.extend» ⟨[.ref l, .ref b], []⟩) (fun _ R s => s.heap.get? l = some { cls := .type "list", dict := none, data := .seq items n, slots := #[] } ∧ s.heap.get? b = some { cls := .type "tuple", dict := dct, data := .seq items2 n2, slots := sl } ∧ R (.ok (.ret Value.none)) { s with heap := s.heap.update l (Obj.mapSeq fun x => x ++ items2), toks := s.toks }) :=
  .of_wp fun prog w A R s h => by
    obtain ⟨hp, g, d, tk, os⟩ := s
    obtain ⟨hl, hb, h⟩ := h
    have f1 := idx_int
    have f2 := AutoSeq1.sub_tuple_tuple
    have f3 := AutoSeq1.sub_list_list
    have f4 := AutoSeq1.sub_tuple_list
    have f5 := AutoSeq1.sub_list_tuple
    have hz' : (items ++ items2).size ≤ sizeLine + 1 := by rw [Array.size_append]; exact hs2
    wp_walk using (wpAny_updateSeq hl rfl (hz := hs1) (_hz' := hz')), wpAny_loadPart' hl, wpAny_loadPart' hb
    exact ⟨_, rfl, h⟩
def rExtQ : V → List V → Hp → VK → Prop := fun x vs H Q => ∃ l b xs zs, x = .ref l ∧ vs = [.ref b] ∧ H l = some (.lst xs) ∧ Sq H b zs ∧ xs.length + zs.length ≤ sizeLine ∧ Q .non (upd H l (.lst (xs ++ zs)))
theorem mt_extQ : MtM X "list.extend" rExtQ := by
  intro pins s σ H x vs v us Q I rx rv h
  obtain ⟨l, b, xs, zs, rfl, rfl, hH, hB, hz, q⟩ := h
  rcases hB with hB | hB
  · exact mt_extend pins s σ H _ _ v us Q I rx rv ⟨l, b, xs, zs, rfl, rfl, hH, hB, hz, q⟩
  cases rx
  obtain ⟨u, rfl, ru⟩ := rv.one
  cases ru
  obtain ⟨z, its, n, r, hl, e⟩ := I.lstM hH
  obtain ⟨its2, r2, ⟨⟨c2, d2, dt2, sl2⟩, e2, hc2, n2, hd2⟩, hz2⟩ := I.tuple (.inl (.inl hB))
  have hl2 := r2.length
  replace hc2 : c2 = .type "tuple" := hc2
  replace hd2 : dt2 = .seq its2.toArray n2 := hd2
  subst hc2 hd2
  have hsz : its.toArray.size + its2.toArray.size ≤ sizeLine := by rw [List.size_toArray, List.size_toArray]; omega
  have hlong : ¬ (!its.toArray.isEmpty && Builtin.List.listTooLong (its.toArray.size + its2.toArray.size)) = true := by
    rw [notLongL hsz, Bool.and_false]
    exact Bool.false_ne_true
  refine call_meets F.slot_list_extend ⟨_, e, rfl⟩ F.entry_list_extend (F.args_list_extend_2 _ _)
    (extend_tuple l its.toArray n b its2.toArray n2 d2 sl2 hlong (by rw [List.size_toArray]; omega) (by omega)) ⟨e, e2, ?_⟩
  refine ⟨.non, _, I.lset (its' := its ++ its2) hH e (by simp) (r.append r2) ?_, rfl, q⟩
  rw [List.length_append]
  omega
def rSlQ : V → Option Int → Option Int → Hp → VK → Prop := fun x lo hi H Q => ∃ a xs, x = .ref a ∧ Sq H a xs ∧ ∀ p H', Same H H' → Sq H' p (cutV xs lo hi) → Q (.ref p) H'
theorem sl_Q : SlR X rSlQ := by
  intro pins s σ H x v vl vu lo hi sl Q I rx hs pl pu h
  obtain ⟨a, xs, rfl, hx, q⟩ := h
  rcases hx with hx | hx
  · exact sl_L pins s σ H _ v vl vu lo hi sl Q I rx hs pl pu ⟨a, xs, rfl, hx, fun p np => q p _ (same_new np) (.inl upd_same)⟩
  · refine sl_tupA pins s σ H _ v vl vu lo hi sl Q I rx hs pl pu ⟨a, xs, rfl, .inl (.inl hx), fun hw => ?_, fun _ p np => q p _ (same_new np) (.inr upd_same)⟩
    have e : cutV xs lo hi = xs := by
      unfold cutV
      rw [hw.1, hw.2]
      simp
    exact q a H (Same.refl H) (by rw [e]; exact .inr hx)
end
end Fx
namespace K24
open PySem PySem.Spec PyProof.Rows L2 Fx
def top (i : Nat) : Stmt := PySem.Challenge.pw_fablemill_k24_squeezed.main.body.getD i (.Pass ⟨0, 0, 0, 0⟩)
abbrev s_squeezed : Stmt := top 2
abbrev N_squeezed : List Str := ["old", "new", "row", "zeros", "place", "byte", "less", "many"]
theorem sc_squeezed : FnScope N_squeezed ["old", "new"] (defScope s_squeezed) := ⟨rfl, rfl, rfl, by decide +kernel, rfl, by decide +kernel, by decide +kernel⟩
theorem bn_squeezed : BindP "squeezed" s_squeezed ["old", "new"] := fun _ _ _ _ _ _ us hl => match us, hl with | [_, _], _ => rfl
abbrev s_spread : Stmt := top 3
abbrev N_spread : List Str := ["old", "row", "new", "place", "done"]
theorem sc_spread : FnScope N_spread ["old", "row"] (defScope s_spread) := ⟨rfl, rfl, rfl, by decide +kernel, rfl, by decide +kernel, by decide +kernel⟩
theorem bn_spread : BindP "spread" s_spread ["old", "row"] := fun _ _ _ _ _ _ us hl => match us, hl with | [_, _], _ => rfl
abbrev s__law_bag : Stmt := top 5
abbrev N__law_bag : List Str := ["_law_script", "_law_mixed", "_law_cell"]
theorem sc__law_bag : FnScope N__law_bag ["_law_script"] (defScope s__law_bag) := ⟨rfl, rfl, rfl, by decide +kernel, rfl, by decide +kernel, by decide +kernel⟩
theorem bn__law_bag : BindP "_law_bag" s__law_bag ["_law_script"] := fun _ _ _ _ _ _ us hl => match us, hl with | [_], _ => rfl
abbrev s__law_pick : Stmt := top 6
abbrev N__law_pick : List Str := ["_law_bag_here", "_law_many", "_law_number", "_law_cell"]
theorem sc__law_pick : FnScope N__law_pick ["_law_bag_here", "_law_many"] (defScope s__law_pick) := ⟨rfl, rfl, rfl, by decide +kernel, rfl, by decide +kernel, by decide +kernel⟩
theorem bn__law_pick : BindP "_law_pick" s__law_pick ["_law_bag_here", "_law_many"] := fun _ _ _ _ _ _ us hl => match us, hl with | [_, _], _ => rfl
abbrev s__law_choice : Stmt := top 7
abbrev N__law_choice : List Str := ["_law_bag_here", "_law_things"]
theorem sc__law_choice : FnScope N__law_choice ["_law_bag_here", "_law_things"] (defScope s__law_choice) := ⟨rfl, rfl, rfl, by decide +kernel, rfl, by decide +kernel, by decide +kernel⟩
theorem bn__law_choice : BindP "_law_choice" s__law_choice ["_law_bag_here", "_law_things"] := fun _ _ _ _ _ _ us hl => match us, hl with | [_, _], _ => rfl
abbrev s__law_one_in : Stmt := top 8
abbrev N__law_one_in : List Str := ["_law_bag_here", "_law_many"]
theorem sc__law_one_in : FnScope N__law_one_in ["_law_bag_here", "_law_many"] (defScope s__law_one_in) := ⟨rfl, rfl, rfl, by decide +kernel, rfl, by decide +kernel, by decide +kernel⟩
theorem bn__law_one_in : BindP "_law_one_in" s__law_one_in ["_law_bag_here", "_law_many"] := fun _ _ _ _ _ _ us hl => match us, hl with | [_, _], _ => rfl
abbrev s__law_integer : Stmt := top 9
abbrev N__law_integer : List Str := ["_law_thing"]
theorem sc__law_integer : FnScope N__law_integer ["_law_thing"] (defScope s__law_integer) := ⟨rfl, rfl, rfl, by decide +kernel, rfl, by decide +kernel, by decide +kernel⟩
theorem bn__law_integer : BindP "_law_integer" s__law_integer ["_law_thing"] := fun _ _ _ _ _ _ us hl => match us, hl with | [_], _ => rfl
abbrev s__law_length : Stmt := top 10
abbrev N__law_length : List Str := ["_law_bag_here", "_law_way"]
theorem sc__law_length : FnScope N__law_length ["_law_bag_here"] (defScope s__law_length) := ⟨rfl, rfl, rfl, by decide +kernel, rfl, by decide +kernel, by decide +kernel⟩
theorem bn__law_length : BindP "_law_length" s__law_length ["_law_bag_here"] := fun _ _ _ _ _ _ us hl => match us, hl with | [_], _ => rfl
abbrev s__law_stretch : Stmt := top 11
abbrev N__law_stretch : List Str := ["_law_bag_here", "_law_many", "_law_is_equal", "_law_first", "_law_step", "_law_less", "_law_turn", "_law_k", "_law_old", "_law_new"]
theorem sc__law_stretch : FnScope N__law_stretch ["_law_bag_here", "_law_many", "_law_is_equal"] (defScope s__law_stretch) := ⟨rfl, rfl, rfl, by decide +kernel, rfl, by decide +kernel, by decide +kernel⟩
theorem bn__law_stretch : BindP "_law_stretch" s__law_stretch ["_law_bag_here", "_law_many", "_law_is_equal"] := fun _ _ _ _ _ _ us hl => match us, hl with | [_, _, _], _ => rfl
abbrev s__law_pair : Stmt := top 12
abbrev N__law_pair : List Str := ["_law_bag_here", "_law_old", "_law_new", "_law_shape", "_law_many", "_law_k", "_law_is_equal", "_law_first", "_law_second"]
theorem sc__law_pair : FnScope N__law_pair ["_law_bag_here"] (defScope s__law_pair) := ⟨rfl, rfl, rfl, by decide +kernel, rfl, by decide +kernel, by decide +kernel⟩
theorem bn__law_pair : BindP "_law_pair" s__law_pair ["_law_bag_here"] := fun _ _ _ _ _ _ us hl => match us, hl with | [_], _ => rfl
abbrev s__law_differences : Stmt := top 13
abbrev N__law_differences : List Str := ["_law_old", "_law_new", "_law_k"]
theorem sc__law_differences : FnScope N__law_differences ["_law_old", "_law_new"] (defScope s__law_differences) := ⟨rfl, rfl, rfl, by decide +kernel, rfl, by decide +kernel, by decide +kernel⟩
theorem bn__law_differences : BindP "_law_differences" s__law_differences ["_law_old", "_law_new"] := fun _ _ _ _ _ _ us hl => match us, hl with | [_, _], _ => rfl
abbrev s__law_packed : Stmt := top 14
abbrev N__law_packed : List Str := ["_law_row", "_law_packed_here", "_law_zeros", "_law_one"]
theorem sc__law_packed : FnScope N__law_packed ["_law_row"] (defScope s__law_packed) := ⟨rfl, rfl, rfl, by decide +kernel, rfl, by decide +kernel, by decide +kernel⟩
theorem bn__law_packed : BindP "_law_packed" s__law_packed ["_law_row"] := fun _ _ _ _ _ _ us hl => match us, hl with | [_], _ => rfl
abbrev s__law_unpacked : Stmt := top 15
abbrev N__law_unpacked : List Str := ["_law_row", "_law_found", "_law_place", "_law_step"]
theorem sc__law_unpacked : FnScope N__law_unpacked ["_law_row"] (defScope s__law_unpacked) := ⟨rfl, rfl, rfl, by decide +kernel, rfl, by decide +kernel, by decide +kernel⟩
theorem bn__law_unpacked : BindP "_law_unpacked" s__law_unpacked ["_law_row"] := fun _ _ _ _ _ _ us hl => match us, hl with | [_], _ => rfl
abbrev s__law_new_row : Stmt := top 16
abbrev N__law_new_row : List Str := ["_law_old", "_law_row", "_law_found", "_law_k"]
theorem sc__law_new_row : FnScope N__law_new_row ["_law_old", "_law_row"] (defScope s__law_new_row) := ⟨rfl, rfl, rfl, by decide +kernel, rfl, by decide +kernel, by decide +kernel⟩
theorem bn__law_new_row : BindP "_law_new_row" s__law_new_row ["_law_old", "_law_row"] := fun _ _ _ _ _ _ us hl => match us, hl with | [_, _], _ => rfl
abbrev s__law_is_row : Stmt := top 17
abbrev N__law_is_row : List Str := ["_law_told", "_law_due", "_law_k"]
theorem sc__law_is_row : FnScope N__law_is_row ["_law_told", "_law_due"] (defScope s__law_is_row) := ⟨rfl, rfl, rfl, by decide +kernel, rfl, by decide +kernel, by decide +kernel⟩
theorem bn__law_is_row : BindP "_law_is_row" s__law_is_row ["_law_told", "_law_due"] := fun _ _ _ _ _ _ us hl => match us, hl with | [_, _], _ => rfl
abbrev s__law_there_and_back : Stmt := top 18
abbrev N__law_there_and_back : List Str := ["_law_old", "_law_new", "_law_due", "_law_first", "_law_second", "_law_changes"]
theorem sc__law_there_and_back : FnScope N__law_there_and_back ["_law_old", "_law_new"] (defScope s__law_there_and_back) := ⟨rfl, rfl, rfl, by decide +kernel, rfl, by decide +kernel, by decide +kernel⟩
theorem bn__law_there_and_back : BindP "_law_there_and_back" s__law_there_and_back ["_law_old", "_law_new"] := fun _ _ _ _ _ _ us hl => match us, hl with | [_, _], _ => rfl
abbrev s__law_parted : Stmt := top 19
abbrev N__law_parted : List Str := ["_law_bag_here", "_law_row", "_law_place", "_law_k", "_law_left"]
theorem sc__law_parted : FnScope N__law_parted ["_law_bag_here", "_law_row"] (defScope s__law_parted) := ⟨rfl, rfl, rfl, by decide +kernel, rfl, by decide +kernel, by decide +kernel⟩
theorem bn__law_parted : BindP "_law_parted" s__law_parted ["_law_bag_here", "_law_row"] := fun _ _ _ _ _ _ us hl => match us, hl with | [_, _], _ => rfl
abbrev s__law_changed : Stmt := top 20
abbrev N__law_changed : List Str := ["_law_bag_here", "_law_told", "_law_row", "_law_k", "_law_way", "_law_place"]
theorem sc__law_changed : FnScope N__law_changed ["_law_bag_here", "_law_told"] (defScope s__law_changed) := ⟨rfl, rfl, rfl, by decide +kernel, rfl, by decide +kernel, by decide +kernel⟩
theorem bn__law_changed : BindP "_law_changed" s__law_changed ["_law_bag_here", "_law_told"] := fun _ _ _ _ _ _ us hl => match us, hl with | [_, _], _ => rfl
abbrev s__law_spread_asked : Stmt := top 21
abbrev N__law_spread_asked : List Str := ["_law_old", "_law_row", "_law_due", "_law_first", "_law_changes", "_law_told"]
theorem sc__law_spread_asked : FnScope N__law_spread_asked ["_law_old", "_law_row"] (defScope s__law_spread_asked) := ⟨rfl, rfl, rfl, by decide +kernel, rfl, by decide +kernel, by decide +kernel⟩
theorem bn__law_spread_asked : BindP "_law_spread_asked" s__law_spread_asked ["_law_old", "_law_row"] := fun _ _ _ _ _ _ us hl => match us, hl with | [_, _], _ => rfl
abbrev s_law : Stmt := top 22
abbrev N_law : List Str := ["_law_script", "_law_bag_here", "_law_old", "_law_new", "_law_other", "_law_later", "_law_k"]
theorem sc_law : FnScope N_law ["_law_script"] (defScope s_law) := ⟨rfl, rfl, rfl, by decide +kernel, rfl, by decide +kernel, by decide +kernel⟩
theorem bn_law : BindP "law" s_law ["_law_script"] := fun _ _ _ _ _ _ us hl => match us, hl with | [_], _ => rfl
structure Tx (P : Program) (K : PySem.W.Frag) (mg : Str → Option Value) : Prop where
  b_bool : mg "bool" = none
  b_enumerate : mg "enumerate" = none
  b_int : mg "int" = none
  b_isinstance : mg "isinstance" = none
  b_len : mg "len" = none
  b_list : mg "list" = none
  b_min : mg "min" = none
  b_range : mg "range" = none
  b_tuple : mg "tuple" = none
  c_LONGEST_ZEROS : Cst mg "LONGEST_ZEROS" (.int 256)
theorem tyL {K : PySem.W.Frag} {H : Hp} {p : Addr} {xs : List V} (h : H p = some (.lst xs)) : tyV K "list" (.ref p) H := .inl ⟨rfl, xs, .inl (.inl h)⟩
theorem Same.put {H H1 : Hp} {D : Addr} {o : HO} (x : Same H H1) (hD : H D = none) : Same H (upd H1 D o) := fun a o' h => by
  rw [upd_ne (ne_of_none h hD)]
  exact x a o' h
theorem none_ne {H : Hp} {a b : Addr} {o : HO} (h : H a = some o) (hb : H b = none) : a ≠ b := ne_of_none h hb
theorem cutV_lo (xs : List V) (n : Nat) : cutV xs (some (n : Int)) none = xs.drop n := by
  unfold cutV
  rw [HT.sIx_nat, HT.sIx_none]
  by_cases h : n ≤ xs.length
  · rw [Nat.min_eq_left h, List.take_of_length_le (by rw [List.length_drop]; omega)]
  · rw [Nat.min_eq_right (by omega), List.drop_of_length_le (by omega : xs.length ≤ n), List.drop_length]
    simp
theorem cutV_hi (xs : List V) (n : Nat) : cutV xs none (some (n : Int)) = xs.take n := by
  unfold cutV
  rw [HT.sIx_nat, HT.sIx_none, List.drop_zero, Nat.sub_zero]
  by_cases h : n ≤ xs.length
  · rw [Nat.min_eq_left h]
  · rw [Nat.min_eq_right (by omega), List.take_of_length_le (by omega : xs.length ≤ n), List.take_length]
theorem cutV_two (xs : List V) (a b : Nat) : cutV xs (some (a : Int)) (some (b : Int)) = (xs.drop a).take (b - a) := by
  unfold cutV
  rw [HT.sIx_nat, HT.sIx_nat]
  by_cases h : a ≤ xs.length
  · rw [Nat.min_eq_left h]
    by_cases h2 : b ≤ xs.length
    · rw [Nat.min_eq_left h2]
    · rw [Nat.min_eq_right (by omega), List.take_of_length_le (by rw [List.length_drop]; omega), List.take_of_length_le (by rw [List.length_drop]; omega)]
  · rw [Nat.min_eq_right (by omega : xs.length ≤ a), List.drop_of_length_le (by omega : xs.length ≤ a), List.drop_length]
    simp
theorem atI_ok {xs : List Int} {a : Int} (h0 : 0 ≤ a) (h : a < ((xs.map V.int).length : Nat)) : ∃ n, atI (xs.map V.int) a = some (.int n) := by
  rw [List.length_map] at h
  have e : ixN (xs.map V.int).length a = some a.toNat := by
    unfold ixN
    rw [if_pos h0, if_pos (by rw [List.length_map]; exact h)]
  unfold atI
  rw [e]
  have hl : a.toNat < xs.length := by omega
  exact ⟨xs[a.toNat], by simp [hl]⟩
theorem atI_get {α : Type} {xs : List α} {i : Nat} {v : α} (h : xs[i]? = some v) : atI xs (i : Int) = some v := by
  have hl := (List.getElem?_eq_some_iff.mp h).1
  have e : ixN xs.length (i : Int) = some i := by
    unfold ixN
    rw [if_pos (by omega), if_pos (by omega)]
    rfl
  unfold atI
  rw [e]
  exact h
theorem ixN_nat {n i : Nat} (h : i < n) : ixN n (i : Int) = some i := by
  unfold ixN
  rw [if_pos (by omega), if_pos (by omega)]
  rfl
theorem mapI_get {ns : List Int} {i : Nat} (h : i < ns.length) : (ns.map V.int)[i]? = some (.int ns[i]) := by simp [h]
theorem mapI_some {ns : List Int} {i : Nat} {x : V} (h : (ns.map V.int)[i]? = some x) : ∃ n, x = V.int n ∧ ns[i]? = some n := by
  rw [List.getElem?_map] at h
  cases e : ns[i]? with
  | none => rw [e] at h; cases h
  | some z => rw [e] at h; exact ⟨z, (Option.some.inj h).symm, rfl⟩
theorem atI_mem {α : Type} {xs : List α} {a : Int} (h0 : 0 ≤ a) (h : a < (xs.length : Nat)) : ∃ c, atI xs a = some c ∧ c ∈ xs := by
  have e : ixN xs.length a = some a.toNat := by
    unfold ixN
    rw [if_pos h0, if_pos h]
  unfold atI
  rw [e]
  have hl : a.toNat < xs.length := by omega
  exact ⟨xs[a.toNat], by simp [hl], List.getElem_mem hl⟩
def zr (z : Nat) : List Int := (List.replicate (z / 256) ([0, 255] : List Int)).flatten ++ (if z % 256 = 0 then [] else [0, ((z % 256 : Nat) : Int) - 1])
def pk : Nat → List Int → List Int
  | _, [] => []
  | z, x :: r => if x = 0 then pk (z + 1) r else zr z ++ x :: pk 0 r
def diff (os ns : List Int) : List Int := List.zipWith (fun a b => (b - a) % 256) os ns
def addl (os fs : List Int) : List Int := List.zipWith (fun a b => (a + b) % 256) os fs
def up : List Int → Option (List Int)
  | [] => some []
  | [x] => if x = 0 then none else some [x]
  | x :: k :: r => if x = 0 then (up r).map (List.replicate (k + 1).toNat 0 ++ ·) else (up (k :: r)).map (x :: ·)
def newRow (os row : List Int) : Option (List Int) := match up row with
  | none => none
  | some f => if os.length < f.length then none else if pk 0 (f ++ List.replicate (os.length - f.length) 0) = row then some (addl os (f ++ List.replicate (os.length - f.length) 0)) else none
def Byt (l : List Int) : Prop := ∀ x ∈ l, 0 ≤ x ∧ x ≤ 255
theorem zr_zero : zr 0 = [] := rfl
theorem zr_step {z : Nat} (h : 0 < z) : zr z = [0, ((min z 256 : Nat) : Int) - 1] ++ zr (z - min z 256) := by
  by_cases h1 : z < 256
  · have e : min z 256 = z := by omega
    rw [e, Nat.sub_self, zr_zero, List.append_nil]
    unfold zr
    rw [Nat.div_eq_of_lt h1, Nat.mod_eq_of_lt h1, if_neg (by omega)]
    rfl
  · have e : min z 256 = 256 := by omega
    rw [e]
    have e1 : z / 256 = (z - 256) / 256 + 1 := by omega
    have e2 : z % 256 = (z - 256) % 256 := by omega
    unfold zr
    rw [e1, e2, List.replicate_succ, List.flatten_cons, List.append_assoc]
    rfl
theorem up_nz {x : Int} {r : List Int} (h : x ≠ 0) : up (x :: r) = (up r).map (x :: ·) := by
  cases r with
  | nil => simp [up, h]
  | cons k r => simp [up, h]
theorem up_z {k : Int} {r : List Int} : up (0 :: k :: r) = (up r).map (List.replicate (k + 1).toNat 0 ++ ·) := by simp [up]
theorem up_zr : ∀ (n z : Nat) (r : List Int), z ≤ n → up (zr z ++ r) = (up r).map (List.replicate z 0 ++ ·)
  | _, 0, r, _ => by
    rw [zr_zero, List.nil_append]
    cases up r <;> simp
  | 0, z + 1, r, h => absurd h (by omega)
  | n + 1, z + 1, r, h => by
    rw [zr_step (Nat.succ_pos z), List.append_assoc]
    show up (0 :: (((min (z + 1) 256 : Nat) : Int) - 1) :: (zr (z + 1 - min (z + 1) 256) ++ r)) = _
    rw [up_z, up_zr n _ r (by omega), Option.map_map]
    congr 1
    funext l
    show List.replicate _ 0 ++ (List.replicate _ 0 ++ l) = _
    rw [← List.append_assoc, List.replicate_append_replicate]
    congr 2
    omega
/-- what is unpacked of a packed row: the row but for zeros at its end -/
theorem up_pk : ∀ (d : List Int) (z : Nat), ∃ f k, up (pk z d) = some f ∧ f ++ List.replicate k 0 = List.replicate z 0 ++ d ∧ f.length ≤ z + d.length
  | [], z => ⟨[], z, rfl, by simp, by simp⟩
  | x :: d, z => by
    by_cases h : x = 0
    · subst h
      obtain ⟨f, k, h1, h2, h3⟩ := up_pk d (z + 1)
      refine ⟨f, k, ?_, ?_, ?_⟩
      · show up (if (0 : Int) = 0 then pk (z + 1) d else _) = _
        rw [if_pos rfl]
        exact h1
      · rw [h2, List.replicate_succ', List.append_assoc]
        rfl
      · rw [List.length_cons]
        omega
    · obtain ⟨f, k, h1, h2, h3⟩ := up_pk d 0
      refine ⟨List.replicate z 0 ++ x :: f, k, ?_, ?_, ?_⟩
      · show up (if x = 0 then pk (z + 1) d else zr z ++ x :: pk 0 d) = _
        rw [if_neg h, up_zr z z _ (Nat.le_refl _), up_nz h, h1]
        rfl
      · rw [List.append_assoc, List.cons_append, h2]
        rfl
      · rw [List.length_append, List.length_replicate, List.length_cons, List.length_cons]
        omega
theorem addl_len (a b : List Int) : (addl a b).length = min a.length b.length := List.length_zipWith
theorem diff_len (a b : List Int) : (diff a b).length = min a.length b.length := List.length_zipWith
theorem diff_add : ∀ (os f : List Int), f.length ≤ os.length → Byt os → Byt f → os.length = f.length → diff os (addl os f) = f
  | [], [], _, _, _, _ => rfl
  | [], _ :: _, h, _, _, _ => by cases h
  | _ :: _, [], _, _, _, h => by cases h
  | a :: os, b :: f, h, ho, hf, hl => by
    have h1 := ho a (List.mem_cons_self ..)
    have h2 := hf b (List.mem_cons_self ..)
    show ((a + b) % 256 - a) % 256 :: diff os (addl os f) = _
    rw [diff_add os f (by simpa using h) (fun x hx => ho x (List.mem_cons_of_mem _ hx)) (fun x hx => hf x (List.mem_cons_of_mem _ hx)) (by simpa using hl)]
    congr 1
    omega
theorem add_diff : ∀ (os ns : List Int), os.length = ns.length → Byt ns → addl os (diff os ns) = ns
  | [], [], _, _ => rfl
  | [], _ :: _, h, _ => by cases h
  | _ :: _, [], h, _ => by cases h
  | a :: os, b :: ns, h, hn => by
    have h2 := hn b (List.mem_cons_self ..)
    show (a + (b - a) % 256) % 256 :: addl os (diff os ns) = _
    rw [add_diff os ns (by simpa using h) (fun x hx => hn x (List.mem_cons_of_mem _ hx))]
    congr 1
    omega
theorem diff_byt : ∀ (os ns : List Int), Byt (diff os ns)
  | [], _ => fun x hx => by cases hx
  | _ :: _, [] => fun x hx => by cases hx
  | a :: os, b :: ns => fun x hx => by
    rcases List.mem_cons.mp hx with e | hx
    · rw [e]
      show 0 ≤ (b - a) % 256 ∧ (b - a) % 256 ≤ 255
      omega
    · exact diff_byt os ns x hx
theorem newRow_pk {os ns : List Int} (hl : os.length = ns.length) (hn : Byt ns) : newRow os (pk 0 (diff os ns)) = some ns := by
  obtain ⟨f, k, h1, h2, h3⟩ := up_pk (diff os ns) 0
  have hd : (diff os ns).length = os.length := by rw [diff_len]; omega
  have e : f ++ List.replicate (os.length - f.length) 0 = diff os ns := by
    have hk : k = os.length - f.length := by
      have := congrArg List.length h2
      rw [List.length_append, List.length_append, List.length_replicate, List.length_replicate, hd] at this
      omega
    rw [← hk, h2]
    rfl
  unfold newRow
  rw [h1]
  dsimp only
  rw [if_neg (by omega), e, if_pos rfl, add_diff os ns hl hn]
theorem pk_len : ∀ (d : List Int) (z : Nat), (pk z d).length ≤ 2 * (z + d.length)
  | [], z => by simp [pk]
  | x :: d, z => by
    by_cases h : x = 0
    · show (if x = 0 then pk (z + 1) d else _).length ≤ _
      rw [if_pos h, List.length_cons]
      have := pk_len d (z + 1)
      omega
    · show (if x = 0 then pk (z + 1) d else zr z ++ x :: pk 0 d).length ≤ _
      rw [if_neg h, List.length_append, List.length_cons, List.length_cons]
      have := pk_len d 0
      have hz : (zr z).length ≤ 2 * z := by
        unfold zr
        rw [List.length_append, List.length_flatten, List.map_replicate, List.sum_replicate_nat]
        split
        · simp
          omega
        · simp
          omega
      omega
theorem zr_len (z : Nat) : (zr z).length ≤ 2 * z := by
  unfold zr
  rw [List.length_append, List.length_flatten, List.map_replicate, List.sum_replicate_nat]
  split
  · simp
    omega
  · simp
    omega
theorem zr_byt (z : Nat) : Byt (zr z) := by
  intro x hx
  unfold zr at hx
  rcases List.mem_append.mp hx with hx | hx
  · obtain ⟨l, hl, hx⟩ := List.mem_flatten.mp hx
    rw [(List.mem_replicate.mp hl).2] at hx
    rcases List.mem_cons.mp hx with e | hx
    · omega
    · rw [List.mem_singleton.mp hx]
      omega
  · split at hx
    · cases hx
    · rcases List.mem_cons.mp hx with e | hx
      · omega
      · rw [List.mem_singleton.mp hx]
        omega
theorem pk_byt : ∀ (d : List Int) (z : Nat), Byt d → Byt (pk z d)
  | [], _, _ => fun x hx => by cases hx
  | y :: d, z, h => by
    have h' : Byt d := fun x hx => h x (List.mem_cons_of_mem _ hx)
    show Byt (if y = 0 then pk (z + 1) d else zr z ++ y :: pk 0 d)
    split
    · exact pk_byt d _ h'
    · intro x hx
      rcases List.mem_append.mp hx with hx | hx
      · exact zr_byt z x hx
      · rcases List.mem_cons.mp hx with e | hx
        · rw [e]
          exact h y (List.mem_cons_self ..)
        · exact pk_byt d 0 h' x hx
/-! spread: how far it has come -/
structure Spr (os row F : List Int) (k : Nat) : Prop where
  le : k ≤ row.length
  eq : up row = (up (row.drop k)).map (F ++ ·)
  byt : Byt F
theorem Spr.start (os row : List Int) : Spr os row [] 0 := ⟨Nat.zero_le _, by rw [List.drop_zero]; cases up row <;> simp, fun x hx => by cases hx⟩
theorem drop_get {row : List Int} {k : Nat} {x : Int} (h : row[k]? = some x) : row.drop k = x :: row.drop (k + 1) := by
  obtain ⟨hlt, e⟩ := List.getElem?_eq_some_iff.mp h
  rw [List.drop_eq_getElem_cons hlt, e]
theorem Spr.one {os row F : List Int} {k : Nat} {x : Int} (S : Spr os row F k) (hb : Byt row) (h : row[k]? = some x) (hx : x ≠ 0) : Spr os row (F ++ [x]) (k + 1) := by
  refine ⟨(List.getElem?_eq_some_iff.mp h).1, ?_, ?_⟩
  · rw [S.eq, drop_get h, up_nz hx, Option.map_map]
    congr 1
    funext l
    simp
  · intro y hy
    rcases List.mem_append.mp hy with hy | hy
    · exact S.byt y hy
    · rw [List.mem_singleton.mp hy]
      exact hb x (List.mem_of_getElem? h)
theorem Spr.run {os row F : List Int} {k : Nat} {y : Int} (S : Spr os row F k) (h : row[k]? = some 0) (h2 : row[k + 1]? = some y) : Spr os row (F ++ List.replicate (y + 1).toNat 0) (k + 2) := by
  refine ⟨(List.getElem?_eq_some_iff.mp h2).1, ?_, ?_⟩
  · rw [S.eq, drop_get h, drop_get h2, up_z, Option.map_map]
    congr 1
    funext l
    simp
  · intro z hz
    rcases List.mem_append.mp hz with hz | hz
    · exact S.byt z hz
    · rw [(List.mem_replicate.mp hz).2]
      omega
theorem Spr.bad {os row F : List Int} {k : Nat} (S : Spr os row F k) (h : row[k]? = some 0) (h2 : row.length ≤ k + 1) : up row = none := by
  rw [S.eq, drop_get h, List.drop_of_length_le h2]
  rfl
theorem Spr.long {os row F : List Int} {k : Nat} {x : Int} (S : Spr os row F k) (h : row[k]? = some x) (hx : x ≠ 0) (hl : os.length ≤ F.length) : newRow os row = none := by
  unfold newRow
  rw [S.eq, drop_get h, up_nz hx]
  cases e : up (row.drop (k + 1)) with
  | none => rfl
  | some l =>
    show (if os.length < (F ++ x :: l).length then none else _) = none
    rw [if_pos (by rw [List.length_append, List.length_cons]; omega)]
theorem Spr.done {os row F : List Int} {k : Nat} (S : Spr os row F k) (h : row.length ≤ k) : up row = some F := by
  rw [S.eq, List.drop_of_length_le h]
  simp [up]
theorem newRow_up_none {os row : List Int} (h : up row = none) : newRow os row = none := by
  unfold newRow
  rw [h]
/-- the end of spread: what is there is filled up, packed again and compared -/
theorem fill {os F : List Int} (ho : Byt os) : addl os F ++ os.drop (addl os F).length = addl os (F ++ List.replicate (os.length - F.length) 0) := by
  induction os generalizing F with
  | nil => simp [addl]
  | cons a os ih =>
    have h0 := ho a (List.mem_cons_self ..)
    have ho' : Byt os := fun x hx => ho x (List.mem_cons_of_mem _ hx)
    cases F with
    | nil =>
      have e := ih (F := []) ho'
      simp only [addl, List.zipWith_nil_right, List.length_nil, List.drop_zero, List.nil_append, List.length_cons, Nat.sub_zero, List.replicate_succ, List.zipWith_cons_cons] at e ⊢
      rw [← e]
      congr 1
      omega
    | cons b F =>
      have e := ih (F := F) ho'
      simp only [addl, List.zipWith_cons_cons, List.length_cons, List.drop_succ_cons, List.cons_append, Nat.add_sub_add_right] at e ⊢
      rw [e]
theorem addl_take (os F : List Int) : addl os F = addl os (F.take os.length) := by
  induction os generalizing F with
  | nil => simp [addl]
  | cons a os ih =>
    cases F with
    | nil => simp
    | cons b F =>
      simp only [addl, List.zipWith_cons_cons, List.length_cons, List.take_succ_cons] at ih ⊢
      rw [ih F]
theorem spread_end {os row F : List Int} {k : Nat} (S : Spr os row F k) (h : row.length ≤ k) (ho : Byt os) :
    newRow os row = if pk 0 (diff os (addl os F ++ os.drop (addl os F).length)) = row then some (addl os F ++ os.drop (addl os F).length) else none := by
  have hu := S.done h
  rw [fill ho]
  by_cases hl : F.length ≤ os.length
  · have hb : Byt (F ++ List.replicate (os.length - F.length) 0) := by
      intro z hz
      rcases List.mem_append.mp hz with hz | hz
      · exact S.byt z hz
      · rw [(List.mem_replicate.mp hz).2]
        omega
    have hlen : (F ++ List.replicate (os.length - F.length) 0).length = os.length := by
      rw [List.length_append, List.length_replicate]
      omega
    rw [diff_add os _ (by omega) ho hb hlen.symm]
    unfold newRow
    rw [hu]
    dsimp only
    rw [if_neg (by omega)]
  · have e0 : os.length - F.length = 0 := by omega
    have e1 : newRow os row = none := by
      unfold newRow
      rw [hu]
      dsimp only
      rw [if_pos (by omega)]
    rw [e1, e0, List.replicate_zero, List.append_nil, if_neg]
    intro e
    have et : (F.take os.length).length = os.length := by rw [List.length_take]; omega
    rw [addl_take, diff_add os _ (by omega) ho (fun z hz => S.byt z (List.mem_of_mem_take hz)) et.symm] at e
    obtain ⟨f, k', h1, h2, h3⟩ := up_pk (F.take os.length) 0
    rw [e, hu] at h1
    have := Option.some.inj h1
    rw [← this] at h3
    omega
theorem addl_byt : ∀ (os ns : List Int), Byt (addl os ns)
  | [], _ => fun x hx => by cases hx
  | _ :: _, [] => fun x hx => by cases hx
  | a :: os, b :: ns => fun x hx => by
    rcases List.mem_cons.mp hx with e | hx
    · rw [e]
      show 0 ≤ (a + b) % 256 ∧ (a + b) % 256 ≤ 255
      omega
    · exact addl_byt os ns x hx
theorem addl_one {os F : List Int} {x a : Int} (h : os[F.length]? = some a) : addl os (F ++ [x]) = addl os F ++ [(a + x) % 256] := by
  induction os generalizing F with
  | nil => simp at h
  | cons b os ih =>
    cases F with
    | nil =>
      have e : b = a := by simpa using h
      subst e
      simp [addl]
    | cons y F =>
      have := ih (F := F) (by simpa using h)
      simp only [addl, List.cons_append, List.zipWith_cons_cons] at this ⊢
      rw [this]
theorem addl_zeros {os F : List Int} (ho : Byt os) (n : Nat) : addl os (F ++ List.replicate n 0) = addl os F ++ (os.drop F.length).take n := by
  induction os generalizing F with
  | nil => simp [addl]
  | cons a os ih =>
    have h0 := ho a (List.mem_cons_self ..)
    have ho' : Byt os := fun x hx => ho x (List.mem_cons_of_mem _ hx)
    cases F with
    | nil =>
      clear ih
      simp only [List.nil_append, addl, List.zipWith_nil_right, List.length_nil, List.drop_zero]
      have key : ∀ (l : List Int) (n : Nat), Byt l → List.zipWith (fun a b => (a + b) % 256) l (List.replicate n 0) = l.take n := by
        intro l
        induction l with
        | nil => intro n _; simp
        | cons x l ih =>
          intro n hb
          have hx := hb x (List.mem_cons_self ..)
          cases n with
          | zero => simp
          | succ n =>
            rw [List.replicate_succ, List.zipWith_cons_cons, ih n (fun y hy => hb y (List.mem_cons_of_mem _ hy)), List.take_succ_cons]
            congr 1
            omega
      exact key (a :: os) n ho
    | cons y F =>
      have := ih (F := F) ho'
      simp only [addl, List.cons_append, List.zipWith_cons_cons, List.length_cons, List.drop_succ_cons] at this ⊢
      rw [this]
abbrev mi (l : List Int) : List V := l.map V.int
def SqI (H : Hp) (p : Addr) (ns : List Int) : Prop := Sq H p (mi ns)
def spInteger : Sp := fun vs H Q _ => ∃ i : Int, vs = [.int i] ∧ Q (.bl true) H
def spChoiceL : Sp := fun vs H Q _ => ∃ (b p : Addr) (xs : List V), vs = [.ref b, .ref p] ∧ Bag H b ∧ H p = some (.lst xs) ∧ 0 < xs.length ∧ xs.length ≤ 100000 ∧ ∀ (v : V) (H' : Hp), v ∈ xs → Kp b H H' → Q v H'
def spOneIn : Sp := fun vs H Q _ => ∃ (b : Addr) (m : Int), vs = [.ref b, .int m] ∧ Bag H b ∧ 0 < m ∧ m < 1073741824 ∧ ∀ (c : Bool) (H' : Hp), Kp b H H' → Q (.bl c) H'
def spLength : Sp := fun vs H Q _ => ∃ b : Addr, vs = [.ref b] ∧ Bag H b ∧ ∀ (n : Int) (H' : Hp), 0 ≤ n → n ≤ 516 → Kp b H H' → Q (.int n) H'
def spStretch : Sp := fun vs H Q _ => ∃ (b : Addr) (m : Int) (e : Bool), vs = [.ref b, .int m, .bl e] ∧ Bag H b ∧ 0 ≤ m ∧ m ≤ 516 ∧
  ∀ (t o n : Addr) (os ns : List Int) (H' : Hp), Kp b H H' → H n = none → H' t = some (.tup [.ref o, .ref n]) → H' o = some (.lst (mi os)) → H' n = some (.lst (mi ns)) → os.length = m.toNat → ns.length = m.toNat → Byt os → Byt ns → Q (.ref t) H'
def spPair : Sp := fun vs H Q _ => ∃ b : Addr, vs = [.ref b] ∧ Bag H b ∧
  ∀ (t o n : Addr) (os ns : List Int) (H' : Hp), Kp b H H' → H' t = some (.tup [.ref o, .ref n]) → H' o = some (.lst (mi os)) → H' n = some (.lst (mi ns)) → os.length = ns.length → ns.length ≤ 4000 → Byt os → Byt ns → Q (.ref t) H'
def spSqueezed : Sp := fun vs H Q _ => ∃ (o n : Addr) (os ns : List Int), vs = [.ref o, .ref n] ∧ SqI H o os ∧ SqI H n ns ∧ os.length = ns.length ∧ ns.length ≤ 4000 ∧ ∀ p H', Same H H' → H' p = some (.tup (mi (pk 0 (diff os ns)))) → Q (.ref p) H'
def spSpread : Sp := fun vs H Q _ => ∃ (o r : Addr) (os row : List Int), vs = [.ref o, .ref r] ∧ SqI H o os ∧ SqI H r row ∧ os.length ≤ 4000 ∧ row.length ≤ 20000 ∧ Byt os ∧ Byt row ∧
  (newRow os row = none → ∀ H', Same H H' → Q .non H') ∧ (∀ ys, newRow os row = some ys → ∀ p H', Same H H' → H' p = some (.tup (mi ys)) → Q (.ref p) H')
def spDiff : Sp := fun vs H Q _ => ∃ (o n : Addr) (os ns : List Int), vs = [.ref o, .ref n] ∧ H o = some (.lst (mi os)) ∧ H n = some (.lst (mi ns)) ∧ os.length = ns.length ∧ ns.length ≤ 4000 ∧ ∀ p H', Same H H' → H p = none → H' p = some (.lst (mi (diff os ns))) → Q (.ref p) H'
def spPacked : Sp := fun vs H Q _ => ∃ (a : Addr) (ds : List Int), vs = [.ref a] ∧ H a = some (.lst (mi ds)) ∧ ds.length ≤ 4000 ∧ ∀ p H', Same H H' → H p = none → H' p = some (.lst (mi (pk 0 ds))) → Q (.ref p) H'
def spUnpacked : Sp := fun vs H Q _ => ∃ (a : Addr) (row : List Int), vs = [.ref a] ∧ H a = some (.lst (mi row)) ∧ row.length ≤ 20000 ∧ Byt row ∧
  (up row = none → ∀ H', Same H H' → Q .non H') ∧ (∀ f, up row = some f → ∀ p H', Same H H' → H p = none → H' p = some (.lst (mi f)) → Q (.ref p) H')
def spNewRow : Sp := fun vs H Q _ => ∃ (o r : Addr) (os row : List Int), vs = [.ref o, .ref r] ∧ H o = some (.lst (mi os)) ∧ H r = some (.lst (mi row)) ∧ os.length ≤ 4000 ∧ row.length ≤ 20000 ∧ Byt row ∧
  (newRow os row = none → ∀ H', Same H H' → Q .non H') ∧ (∀ ys, newRow os row = some ys → ∀ p H', Same H H' → H' p = some (.lst (mi ys)) → Q (.ref p) H')
def spIsRow : Sp := fun vs H Q _ => ∃ (t d : Addr) (ns : List Int), vs = [.ref t, .ref d] ∧ H t = some (.tup (mi ns)) ∧ H d = some (.lst (mi ns)) ∧ ns.length ≤ 100000 ∧ Q (.bl true) H
def spBack : Sp := fun vs H Q _ => ∃ (o n : Addr) (os ns : List Int), vs = [.ref o, .ref n] ∧ H o = some (.lst (mi os)) ∧ H n = some (.lst (mi ns)) ∧ os.length = ns.length ∧ ns.length ≤ 4000 ∧ Byt os ∧ Byt ns ∧ ∀ H', Same H H' → Q (.bl true) H'
def spParted : Sp := fun vs H Q _ => ∃ (b a : Addr) (row : List Int), vs = [.ref b, .ref a] ∧ Bag H b ∧ H a = some (.lst (mi row)) ∧ row.length ≤ 20000 ∧ Byt row ∧ ∀ (p : Addr) (rs : List Int) (H' : Hp), Kp b H H' → H p = none → H' p = some (.lst (mi rs)) → rs.length ≤ row.length + 2 → Byt rs → Q (.ref p) H'
def spChanged : Sp := fun vs H Q _ => ∃ (b a : Addr) (row : List Int), vs = [.ref b, .ref a] ∧ Bag H b ∧ H a = some (.lst (mi row)) ∧ row.length ≤ 10000 ∧ Byt row ∧ ∀ (p : Addr) (rs : List Int) (H' : Hp), Kp b H H' → H' p = some (.lst (mi rs)) → rs.length ≤ row.length + 10 → Byt rs → Q (.ref p) H'
def spAsked : Sp := fun vs H Q _ => ∃ (o r : Addr) (os row : List Int), vs = [.ref o, .ref r] ∧ H o = some (.lst (mi os)) ∧ H r = some (.lst (mi row)) ∧ os.length ≤ 4000 ∧ row.length ≤ 20000 ∧ Byt os ∧ Byt row ∧ ∀ H', Same H H' → Q (.bl true) H'
def spLaw (K : PySem.W.Frag) : Sp := fun vs H Q _ => ∃ (a : Addr) (ns : List Int), vs = [.ref a] ∧ SqL K H a (ns.map V.int) ∧ ns.length ≤ 1000 ∧ ∀ H', Q (.bl true) H'
theorem take_succ' {l : List Int} {i : Nat} {x : Int} (h : l[i]? = some x) : mi (l.take i) ++ [V.int x] = mi (l.take (i + 1)) := by
  rw [List.take_add_one, h]
  simp [mi]
theorem diff_get {os ns : List Int} {i : Nat} {a b : Int} (ha : os[i]? = some a) (hb : ns[i]? = some b) : (diff os ns)[i]? = some ((b - a) % 256) := by
  unfold diff
  rw [List.getElem?_zipWith, ha, hb]
theorem addl_get {os ns : List Int} {i : Nat} {a b : Int} (ha : os[i]? = some a) (hb : ns[i]? = some b) : (addl os ns)[i]? = some ((a + b) % 256) := by
  unfold addl
  rw [List.getElem?_zipWith, ha, hb]
theorem newRow_len {os row ys : List Int} (h : newRow os row = some ys) : ys.length ≤ os.length := by
  unfold newRow at h
  split at h
  · cases h
  · split at h
    · cases h
    · split at h
      · have := Option.some.inj h
        rw [← this, addl_len]
        omega
      · cases h
def gen (f : Nat → Int) (n : Nat) : List Int := (List.range n).map fun k => f k % 256
theorem gen_len (f : Nat → Int) (n : Nat) : (gen f n).length = n := by
  unfold gen
  rw [List.length_map, List.length_range]
theorem gen_succ (f : Nat → Int) (n : Nat) : gen f (n + 1) = gen f n ++ [f n % 256] := by
  unfold gen
  rw [List.range_succ, List.map_append]
  rfl
theorem gen_byt (f : Nat → Int) (n : Nat) : Byt (gen f n) := by
  intro x hx
  obtain ⟨k, _, e⟩ := List.mem_map.mp hx
  rw [← e]
  show 0 ≤ f k % 256 ∧ f k % 256 ≤ 255
  omega
theorem gen_get {f : Nat → Int} {n k : Nat} (h : k < n) : (gen f n)[k]? = some (f k % 256) := by
  unfold gen
  rw [List.getElem?_map, List.getElem?_range h]
  rfl
theorem Byt.app {a b : List Int} (h : Byt a) (h2 : Byt b) : Byt (a ++ b) := fun x hx => by
  rcases List.mem_append.mp hx with hx | hx
  · exact h x hx
  · exact h2 x hx
theorem Byt.take {a : List Int} (h : Byt a) (n : Nat) : Byt (a.take n) := fun x hx => h x (List.mem_of_mem_take hx)
theorem Byt.drop {a : List Int} (h : Byt a) (n : Nat) : Byt (a.drop n) := fun x hx => h x (List.mem_of_mem_drop hx)
theorem mi_take (a : List Int) (n : Nat) : (mi a).take n = mi (a.take n) := by unfold mi; rw [List.map_take]
theorem mi_drop (a : List Int) (n : Nat) : (mi a).drop n = mi (a.drop n) := by unfold mi; rw [List.map_drop]
theorem byt_of {l : List Int} (h : (l.all fun x => decide (0 ≤ x) && decide (x ≤ 255)) = true) : Byt l := fun x hx => by
  have := List.all_eq_true.mp h x hx
  simpa using this
theorem mi_erase : ∀ (l : List Int) (n : Nat), (mi l).eraseIdx n = mi (l.eraseIdx n)
  | [], _ => rfl
  | _ :: _, 0 => rfl
  | x :: l, n + 1 => by
    show V.int x :: (mi l).eraseIdx n = _
    rw [mi_erase l n]
    rfl
theorem seqIx {i n : Nat} (h : i < n) : seqIndex? (i : Int) n = some i := by
  unfold seqIndex?
  have e : ¬ ((i : Int) < 0) := by omega
  simp only [e, if_false]
  rw [if_pos (by simp; omega)]
  rfl
theorem mi_app (a b : List Int) : mi (a ++ b) = mi a ++ mi b := List.map_append
theorem mi_len (a : List Int) : (mi a).length = a.length := List.length_map ..
theorem pk_zero {z : Nat} {r : List Int} : pk z (0 :: r) = pk (z + 1) r := rfl
theorem pk_nz {z : Nat} {x : Int} {r : List Int} (h : x ≠ 0) : pk z (x :: r) = zr z ++ x :: pk 0 r := by
  show (if x = 0 then _ else _) = _
  rw [if_neg h]
def zr1 (z : Nat) : List Int := (List.replicate (z / 256) ([0, 255] : List Int)).flatten
theorem zr_split (z : Nat) : zr z = zr1 z ++ (if z % 256 = 0 then [] else [0, ((z % 256 : Nat) : Int) - 1]) := rfl
theorem zr1_mi (z : Nat) : (List.replicate ((z : Int) / 256).toNat [V.int 0, V.int 255]).flatten = mi (zr1 z) := by
  have e : ((z : Int) / 256).toNat = z / 256 := by omega
  rw [e]
  unfold zr1 mi
  rw [List.map_flatten, List.map_replicate]
  rfl
theorem zr1_len (z : Nat) : (zr1 z).length ≤ 2 * z := by
  have := zr_len z
  rw [zr_split, List.length_append] at this
  omega
local macro_rules | `(tactic| walk_at "rd") => `(tactic| try simp only [cx_K, L2.start, List.map_cons, List.map_nil, List.length_cons, List.length_nil, List.cons_append, List.nil_append, List.append_nil, Nat.reduceAdd, Nat.reduceSub, List.replicate, tSeq, tIfS, tTest, tB, tOp, tVar, tC, tAsg, gName, tRet, tRetN, tDrop, tCB, tCons, tNil, rI0, rI, tNext, tNot, tAnd, tOr, tIf, tAndV, tOrV, tNotV, tUn, rU, tDGet, sDPut, tCall, tCallS, tTup, tLst, tSl, tPart, tNoPart, rSlS, tM0, tM1, rIxLt, rIxTt, rIxSt, rLenL, rLenT, rLenS, rIntI, rOrd, rSlLt, tBM, tBM0, rAppend, rExtend, rRep, rCat, rIxQ, rLenQ, rTupQ, rTupL, rMin2, rAnd255, rNonIs, rNonNot, rNeL, rNeT, rEqT, rIns, rPopAt, rSetL, gSub, rExtQ, rSlQ, tAug, ipI, tCont, tBreak, gCons, gNil, rLstL, rLstT, rAllL, rAnyL, rMulS, rIsB, tYes, wipe, rEqL, rEq, rNe, scal, tyv_non, tyv_bl, tyv_int, tyv_str, kb_int_int, kb_int_bool, kb_bool_int, kb_bool_bool, kb_str_str, kb_int_str, kb_bool_str, kb_none_str, kb_list_str, kb_tuple_str, kb_dict_str, kb_tuple_tuple, kb_list_list, List.getElem?_cons_zero, List.getElem?_cons_succ, List.set_cons_zero, List.set_cons_succ, Option.some.injEq, V.int.injEq, V.str.injEq, V.bl.injEq, V.ref.injEq, V.ty.injEq, HO.lst.injEq, HO.tup.injEq, List.cons.injEq, reduceCtorEq, false_and, and_false, or_false, false_or, exists_false, and_true, true_and, exists_and_left, exists_eq_left, exists_eq_left', exists_eq, exists_eq', and_assoc, ite_dec, ite_ndec, upd_same, if_true, Bool.false_eq_true, if_false, Bool.not_true, Bool.not_false])
section
variable {P : Program} {w : World} {K : PySem.W.Frag} {mg : Str → Option Value} {base : Heap}
theorem ok_squeezed (S : Src K mg "squeezed" s_squeezed) (T : Tx P K mg)   : Cal P w K mg base CX0 1 "squeezed" ["old", "new"] spSqueezed := by
  refine S.cal sc_squeezed bn_squeezed (fun vs H Q E h => ?_) (fun f cdv A outer s H vs Q E hr h => ?_)
  · first | (obtain ⟨rfl, _⟩ := h; rfl) | (obtain ⟨_, rfl, _⟩ := h; rfl) | (obtain ⟨_, _, rfl, _⟩ := h; rfl) | (obtain ⟨_, _, _, rfl, _⟩ := h; rfl) | (obtain ⟨_, _, _, _, rfl, _⟩ := h; rfl) | (obtain ⟨_, _, _, _, _, rfl, _⟩ := h; rfl) | (obtain ⟨_, _, _, _, _, _, rfl, _⟩ := h; rfl)
  · skip
    refine ⟨_, (pss_cons (ps_set (i := 2) sc_squeezed.nd rfl (Or.inl rfl) (pe_lst pa_nil))
        (pss_cons (ps_set (i := 3) sc_squeezed.nd rfl (Or.inl rfl) pe_int)
        (pss_cons (ps_for PassesOwn.never rfl (Fx.pi_enumQ rfl T.b_enumerate (Fx.pa_c (pv 1) pa_nil)) (pg_tup rfl (pgs_cons (pg_name (i := 4) sc_squeezed.nd rfl (Or.inl rfl)) (pgs_cons (pg_name (i := 5) sc_squeezed.nd rfl (Or.inl rfl)) pgs_nil))) (pss_cons (ps_set (i := 6) sc_squeezed.nd rfl (Or.inl rfl) (pe_op Fx.and_255 (pe_op op_sub (pv 5) (pe_ix Fx.ix_Q (pv 0) (pv 4) (fun _ _ => rfl))) pe_int))
        (pss_cons (ps_if (pt_cmpR op_eq (pv 6) pe_int (nomark _)) (pss_cons (ps_aug (i := 3) sc_squeezed.nd rfl (Or.inl rfl) pe_int ip_add)
        (pss_one ps_continue)) pss_nil)
        (pss_cons (ps_while PassesOwn.never (pt_cmpR op_gt (pv 3) pe_int (nomark _)) (pss_cons (ps_set (i := 7) sc_squeezed.nd rfl (Or.inl rfl) (Fx.pe_cB (Fx.min_2 rfl) T.b_min (by decide +kernel) (Fx.pa_c (pv 3) (Fx.pa_c (Fx.pe_cst T.c_LONGEST_ZEROS) pa_nil))))
        (pss_cons (ps_expr (pe_bm PySem.F.plainAttrs_list PySem.F.slot_list_extend PySem.F.type_list_extend mt_extend (pv 2) (Fx.pa_c (pe_lst (Fx.pa_c pe_int (Fx.pa_c (pe_op op_sub (pv 7) pe_int) pa_nil))) pa_nil)))
        (pss_one (ps_aug (i := 3) sc_squeezed.nd rfl (Or.inl rfl) (pv 7) ip_sub)))))
        (pss_one (ps_expr (pe_bm PySem.F.plainAttrs_list PySem.F.slot_list_append PySem.F.type_list_append mt_append (pv 2) (Fx.pa_c (pv 6) pa_nil))))))))
        (pss_one (ps_ret (Fx.pe_cTy Fx.tup_L T.b_tuple (by decide +kernel) (Fx.pa_c (pv 2) pa_nil))))))), ?_⟩
    obtain ⟨o, n, os, ns, rfl, ho, hn, hl, hlen, q⟩ := h
    refine seqI fun K1 k1 => ?_
    walk_at "rd"
    refine ⟨by decide, fun p np => k1 _ _ ?_⟩
    clear k1
    refine seqI fun K2 k2 => ?_
    walk_at "rd"
    refine k2 _ _ ?_
    clear k2
    refine seqI fun K3 k3 => ?_
    have lpk := pk_len (diff os ns) 0
    have ld := diff_len os ns
    have s0 := same_new (o := .lst []) np
    refine for_enumQ (K := K) (a := n) (xs := mi ns) (fun Q h => ⟨_, rfl, h⟩) (hn.same s0) (fun i σ H' => ∃ (R : List Int) (z : Nat) (v1 v2 v3 v4 : Option V), σ = [some (.ref o), some (.ref n), some (.ref p), some (.int z), v1, v2, v3, v4] ∧ R ++ pk z ((diff os ns).drop i) = pk 0 (diff os ns) ∧ z ≤ i ∧ H' p = some (.lst (mi R)) ∧ Same H H') ⟨[], 0, none, none, none, none, rfl, rfl, Nat.le_refl _, upd_same, s0⟩ ?_ ?_ ?_
    · rintro i σ H' ⟨R, z, v1, v2, v3, v4, _, _, _, _, sH⟩ o' ho'
      have hnp : n ≠ p := by
        rcases hn with hn | hn
        · exact none_ne hn np
        · exact none_ne hn np
      rw [upd_ne hnp] at ho'
      exact sH _ _ ho'
    · rintro i x T' σ H' hx ⟨R, z, v1, v2, v3, v4, rfl, er, hz, hp, sH⟩ nT
      obtain ⟨y, rfl, hy⟩ := mapI_some hx
      have hi := (List.getElem?_eq_some_iff.mp hy).1
      have hio : i < os.length := by omega
      rw [drop_get (diff_get (List.getElem?_eq_getElem hio) hy)] at er
      have lR : R.length ≤ 8000 := by
        have := congrArg List.length er
        rw [List.length_append] at this
        omega
      clear k3
      have sT := same_new (o := .tup [.int (i : Nat), .int y]) nT
      refine ⟨T', _, rfl, .inl (.inl upd_same), rfl, _, _, rfl, _, _, rfl, rfl, ?_⟩
      refine seqI fun K4 k4 => ?_
      walk_at "rd"
      refine ⟨_, (ho.same sH).same sT, _, atI_get (mapI_get hio), _, rfl, k4 _ _ ?_⟩
      clear k4
      have s1 := sH.trans sT
      have hp1 := sT _ _ hp
      generalize upd H' T' (.tup [.int (i : Nat), .int y]) = H1 at s1 hp1
      clear sT
      generalize (y - os[i]) % 256 = x at er
      refine seqI fun K5 k5 => ?_
      refine ifI fun A B ka kb => ?_
      walk_at "rd"
      refine ite_i (fun h0 => ka _ ?_) (fun h0 => kb _ ?_)
      · clear ka kb k5
        subst h0
        walk_at "rd"
        exact ⟨R, z + 1, by simp, er, by omega, hp1, s1⟩
      clear ka kb
      walk_at "rd"
      refine k5 _ _ ?_
      clear k5
      rw [pk_nz h0] at er
      refine seqI fun K6 k6 => ?_
      refine while_i (fun σ H2 => ∃ (R' : List Int) (z' : Nat) (v : Option V), σ = [some (.ref o), some (.ref n), some (.ref p), some (.int z'), some (.int (i : Nat)), some (.int y), some (.int x), v] ∧ R' ++ zr z' = R ++ zr z ∧ z' ≤ 4000 ∧ H2 p = some (.lst (mi R')) ∧ Same H H2) (fun σ _ => match σ with | [_, _, _, some (.int z'), _, _, _, _] => z'.toNat | _ => 0) ⟨R, z, v4, rfl, rfl, by omega, hp1, s1⟩ ?_
      rintro σ H2 ⟨R', z', v, rfl, e2, hz2, hp2, s2⟩ A B ka kb
      have lR' : R'.length ≤ 8000 := by
        have h1 := congrArg List.length e2
        have h2 := congrArg List.length er
        rw [List.length_append, List.length_append] at h1
        rw [List.length_append, List.length_append] at h2
        omega
      walk_at "rd"
      refine ite_i (fun h1 => ka _ ?_) (fun h1 => kb _ ?_)
      · clear ka kb k6
        walk_at "rd"
        have em : (if (256 : Int) < (z' : Int) then (256 : Int) else (z' : Int)) = ((min z' 256 : Nat) : Int) := by
          split
          · omega
          · omega
        rw [em]
        refine ⟨tyL hp2, by decide, fun p3 n3 => ⟨_, same_new n3 _ _ hp2, ?_, ⟨R' ++ [0, ((min z' 256 : Nat) : Int) - 1], z' - min z' 256, by omega, ?_, by omega, ?_, Same.put (s2.trans (same_new n3)) np⟩, by omega⟩⟩
        · rw [mi_len]
          exact sz (by omega)
        · rw [List.append_assoc, ← zr_step (by omega)]
          exact e2
        · rw [mi_app]
          rfl
      · clear ka
        refine k6 _ _ ?_
        have z0 : z' = 0 := by omega
        subst z0
        rw [zr_zero, List.append_nil] at e2
        walk_at "rd"
        refine ⟨tyL hp2, _, hp2, ?_, R' ++ [x], 0, rfl, ?_, by omega, ?_, Same.put s2 np⟩
        · rw [mi_len]
          exact Nat.lt_of_lt_of_le (by omega : _ < 20000) (by decide)
        · rw [e2, List.append_assoc, List.append_assoc]
          exact er
        · rw [mi_app]
          rfl
    · rintro σ H' ⟨R, z, v1, v2, v3, v4, rfl, er, hz, hp, sH⟩
      refine k3 _ _ ?_
      walk_at "rd"
      refine ⟨_, hp, fun l nl => q l _ (sH.trans (same_new nl)) ?_⟩
      rw [upd_same, ← er, List.drop_of_length_le (by rw [ld, mi_len]; omega)]
      simp [pk]
end
section
variable {P : Program} {w : World} {K : PySem.W.Frag} {mg : Str → Option Value} {base : Heap}
theorem ok_spread (S : Src K mg "spread" s_spread) (T : Tx P K mg) (C_squeezed : Cal P w K mg base CX0 1 "squeezed" ["old", "new"] spSqueezed)  : Cal P w K mg base CX0 2 "spread" ["old", "row"] spSpread := by
  refine S.cal sc_spread bn_spread (fun vs H Q E h => ?_) (fun f cdv A outer s H vs Q E hr h => ?_)
  · first | (obtain ⟨rfl, _⟩ := h; rfl) | (obtain ⟨_, rfl, _⟩ := h; rfl) | (obtain ⟨_, _, rfl, _⟩ := h; rfl) | (obtain ⟨_, _, _, rfl, _⟩ := h; rfl) | (obtain ⟨_, _, _, _, rfl, _⟩ := h; rfl) | (obtain ⟨_, _, _, _, _, rfl, _⟩ := h; rfl) | (obtain ⟨_, _, _, _, _, _, rfl, _⟩ := h; rfl)
  · skip
    refine ⟨_, (pss_cons (ps_set (i := 2) sc_spread.nd rfl (Or.inl rfl) (pe_lst pa_nil))
        (pss_cons (ps_set (i := 3) sc_spread.nd rfl (Or.inl rfl) pe_int)
        (pss_cons (ps_while PassesOwn.never (pt_cmpR op_lt (pv 3) (Fx.pe_cB Fx.len_Q T.b_len (by decide +kernel) (Fx.pa_c (pv 1) pa_nil)) (nomark _)) (pss_cons (ps_set (i := 4) sc_spread.nd rfl (Or.inl rfl) (Fx.pe_cB Fx.len_L T.b_len (by decide +kernel) (Fx.pa_c (pv 2) pa_nil)))
        (pss_one (ps_if (PW.pt (pw_and (pt_cmpR op_ne (pe_ix Fx.ix_Q (pv 1) (pv 3) (fun _ _ => rfl)) pe_int (nomark _)) (pw_and1 (pt_cmpR op_lt (pv 4) (Fx.pe_cB Fx.len_Q T.b_len (by decide +kernel) (Fx.pa_c (pv 0) pa_nil)) (nomark _))))) (pss_cons (ps_expr (pe_bm PySem.F.plainAttrs_list PySem.F.slot_list_append PySem.F.type_list_append mt_append (pv 2) (Fx.pa_c (pe_op Fx.and_255 (pe_op op_add (pe_ix Fx.ix_Q (pv 0) (pv 4) (fun _ _ => rfl)) (pe_ix Fx.ix_Q (pv 1) (pv 3) (fun _ _ => rfl))) pe_int) pa_nil)))
        (pss_one (ps_aug (i := 3) sc_spread.nd rfl (Or.inl rfl) pe_int ip_add))) (pss_one (ps_if (PW.pt (pw_and (pt_cmpR op_eq (pe_ix Fx.ix_Q (pv 1) (pv 3) (fun _ _ => rfl)) pe_int (nomark _)) (pw_and1 (pt_cmpR op_lt (pe_op op_add (pv 3) pe_int) (Fx.pe_cB Fx.len_Q T.b_len (by decide +kernel) (Fx.pa_c (pv 1) pa_nil)) (nomark _))))) (pss_cons (ps_expr (pe_bm PySem.F.plainAttrs_list PySem.F.slot_list_extend PySem.F.type_list_extend mt_extQ (pv 2) (Fx.pa_c (pe_slice Fx.sl_Q (pv 0) (po_some (pv 4)) (po_some (pe_op op_add (pe_op op_add (pv 4) (pe_ix Fx.ix_Q (pv 1) (pe_op op_add (pv 3) pe_int) (fun _ _ => rfl))) pe_int))) pa_nil)))
        (pss_one (ps_aug (i := 3) sc_spread.nd rfl (Or.inl rfl) pe_int ip_add))) (pss_one (ps_ret pe_non))))))))
        (pss_cons (ps_expr (pe_bm PySem.F.plainAttrs_list PySem.F.slot_list_extend PySem.F.type_list_extend mt_extQ (pv 2) (Fx.pa_c (pe_slice Fx.sl_Q (pv 0) (po_some (Fx.pe_cB Fx.len_L T.b_len (by decide +kernel) (Fx.pa_c (pv 2) pa_nil))) po_none) pa_nil)))
        (pss_cons (ps_if (pt_cmpR (Fx.ne_TT hr.units) (Fx.pe_cal C_squeezed (hr.mono (by decide)) pass0 (Fx.pa_c (pv 0) (Fx.pa_c (pv 2) pa_nil))) (Fx.pe_cTy Fx.tup_Q T.b_tuple (by decide +kernel) (Fx.pa_c (pv 1) pa_nil)) (nomark _)) (pss_one (ps_ret pe_non)) pss_nil)
        (pss_one (ps_ret (Fx.pe_cTy Fx.tup_L T.b_tuple (by decide +kernel) (Fx.pa_c (pv 2) pa_nil))))))))), ?_⟩
    obtain ⟨o, r, os, row, rfl, ho, hr0, hlo, hlr, hbo, hbr, qn, qs⟩ := h
    refine seqI fun K1 k1 => ?_
    walk_at "rd"
    refine ⟨by decide, fun p np => k1 _ _ ?_⟩
    clear k1
    refine seqI fun K2 k2 => ?_
    walk_at "rd"
    refine k2 _ _ ?_
    clear k2
    refine seqI fun K3 k3 => ?_
    have s0 := same_new (o := .lst []) np
    refine while_i (fun σ H' => ∃ (F : List Int) (k : Nat) (v : Option V), σ = [some (.ref o), some (.ref r), some (.ref p), some (.int (k : Nat)), v] ∧ Spr os row F k ∧ H' p = some (.lst (mi (addl os F))) ∧ Same H H') (fun σ _ => match σ with | [_, _, _, some (.int k), _] => row.length - k.toNat | _ => 0) ⟨[], 0, none, rfl, Spr.start os row, (by rw [upd_same]; simp [addl]), s0⟩ ?_
    rintro σ H' ⟨F, k, v, rfl, S, hp, sH⟩ A B ka kb
    have hkl := S.le
    have lF := addl_len os F
    walk_at "rd"
    refine ⟨_, hr0.same sH, ?_⟩
    rw [mi_len]
    refine ite_i (fun h1 => ka _ ?_) (fun h1 => kb _ ?_)
    · clear ka kb k3
      refine seqI fun K4 k4 => ?_
      walk_at "rd"
      refine ⟨_, hp, k4 _ _ ?_⟩
      clear k4
      rw [mi_len]
      have hk : k < row.length := by omega
      have gk := List.getElem?_eq_getElem hk
      generalize row[k] = x at gk
      have bx := hbr x (List.mem_of_getElem? gk)
      have gk' : (mi row)[k]? = some (.int x) := by rw [List.getElem?_map, gk]; rfl
      have hro := hr0.same sH
      have hoo := ho.same sH
      refine ifI fun A B ka kb => ?_
      walk_at "rd"
      refine ⟨_, hro, _, atI_get gk', ?_⟩
      refine ⟨rfl, ?_⟩
      simp only [V.int.injEq]
      have other : (x = 0 ∨ os.length ≤ (addl os F).length) → B H' := by
        intro hx
        refine kb _ ?_
        clear ka kb A B
        refine ifI fun A B ka kb => ?_
        walk_at "rd"
        refine ⟨_, hro, _, atI_get gk', rfl, ?_⟩
        simp only [V.int.injEq]
        have none_ : newRow os row = none → B H' := by
          intro e
          refine kb _ ?_
          walk_at "rd"
          exact qn e H' sH
        refine ite_i (fun h0 => ⟨_, hro, ?_⟩) (fun h0 => none_ (S.long gk h0 (by omega)))
        subst h0
        rw [mi_len]
        refine ite_i (fun h2 => ka _ ?_) (fun h2 => none_ (newRow_up_none (S.bad gk (by omega))))
        have hk1 : k + 1 < row.length := by omega
        have gk1 := List.getElem?_eq_getElem hk1
        generalize row[k + 1] = y at gk1
        have by1 := hbr y (List.mem_of_getElem? gk1)
        have gk1' : (mi row)[k + 1]? = some (.int y) := by rw [List.getElem?_map, gk1]; rfl
        have ek : ((k : Int) + 1) = ((k + 1 : Nat) : Int) := by omega
        clear ka kb none_
        walk_at "rd"
        refine ⟨tyL hp, _, hro, ?_⟩
        rw [ek]
        refine ⟨_, atI_get gk1', _, rfl, ?_⟩
        refine ⟨_, hoo, fun p1 H5 s5 h5 => ?_⟩
        have ec : ((addl os F).length : Int) + y + 1 = (((addl os F).length + (y + 1).toNat : Nat) : Int) := by omega
        rw [ec, cutV_two, Nat.add_sub_cancel_left] at h5
        have ea : addl os (F ++ List.replicate (y + 1).toNat 0) = addl os F ++ (os.drop (addl os F).length).take (y + 1).toNat := by
          rw [addl_zeros hbo]
          by_cases hF : F.length ≤ os.length
          · rw [lF, Nat.min_eq_right hF]
          · rw [lF, Nat.min_eq_left (by omega), List.drop_of_length_le (by omega : os.length ≤ F.length), List.drop_length]
        refine ⟨_, s5 _ _ hp, _, h5, ?_, ⟨F ++ List.replicate (y + 1).toNat 0, k + 2, by omega, S.run gk gk1, ?_, Same.put (sH.trans s5) np⟩, by omega⟩
        · rw [mi_len, List.length_take, List.length_drop, mi_len]
          exact sz (by omega)
        · rw [ea, mi_app]
          unfold mi
          rw [List.map_take, List.map_drop]
      refine ite_i (fun h0 => other (.inl h0)) (fun h0 => ⟨_, hoo, ?_⟩)
      rw [mi_len]
      refine ite_i (fun h2 => ka _ ?_) (fun h2 => other (.inr (by omega)))
      have hF : (addl os F).length = F.length := by omega
      have ho2 : (addl os F).length < os.length := by omega
      have go := List.getElem?_eq_getElem ho2
      generalize os[(addl os F).length] = w0 at go
      have go' : (mi os)[(addl os F).length]? = some (.int w0) := by rw [List.getElem?_map, go]; rfl
      clear ka kb other
      walk_at "rd"
      refine ⟨tyL hp, _, hoo, _, atI_get go', _, hro, _, atI_get gk', ?_⟩
      walk_at "rd"
      refine ⟨_, hp, ?_, ⟨F ++ [x], k + 1, by omega, S.one hbr gk h0, ?_, Same.put sH np⟩, by omega⟩
      · rw [mi_len]
        exact Nat.lt_of_lt_of_le (by omega : _ < 5000) (by decide)
      · rw [addl_one (hF ▸ go), mi_app]
        rfl
    · clear ka
      refine k3 _ _ ?_
      clear k3 kb
      refine seqI fun K4 k4 => ?_
      walk_at "rd"
      refine ⟨tyL hp, _, hp, _, ho.same sH, fun p1 H5 s5 h5 => ⟨_, s5 _ _ hp, _, h5, ?_, k4 _ _ ?_⟩⟩
      · have := cutV_length (mi os) (some (((mi (addl os F)).length : Nat) : Int)) none
        rw [mi_len, mi_len] at this
        rw [mi_len]
        exact sz (by omega)
      clear k4
      rw [mi_len, cutV_lo]
      have em : mi (addl os F) ++ (mi os).drop (addl os F).length = mi (addl os F ++ os.drop (addl os F).length) := by
        rw [mi_app]
        unfold mi
        rw [List.map_drop]
      rw [em]
      have en := spread_end S (by omega) hbo
      have eN : (addl os F ++ os.drop (addl os F).length).length = os.length := by
        rw [List.length_append, List.length_drop]
        omega
      have s6 := Same.put (o := .lst (mi (addl os F ++ os.drop (addl os F).length))) (sH.trans s5) np
      have hp6 : (upd H5 p (.lst (mi (addl os F ++ os.drop (addl os F).length)))) p = some (.lst (mi (addl os F ++ os.drop (addl os F).length))) := upd_same
      generalize upd H5 p (.lst (mi (addl os F ++ os.drop (addl os F).length))) = H6 at s6 hp6
      clear h5 s5
      generalize addl os F ++ os.drop (addl os F).length = N' at *
      rw [en] at qn qs
      refine seqI fun K5 k5 => ?_
      walk_at "rd"
      refine ⟨o, p, os, N', rfl, ho.same s6, .inl hp6, eN.symm, by omega, fun p7 H7 s7 h7 => ⟨_, (hr0.same s6).same s7, fun p8 H8 s8 h8 => ⟨p7, rfl, _, s8 _ _ h7, _, h8, all_int _, all_int _, ite_i (fun e => k5 _ _ ?_) (fun e => ?_)⟩⟩⟩
      · have e : pk 0 (diff os N') = row := map_int_inj.mp e
        rw [if_pos e] at qs
        clear k5
        walk_at "rd"
        exact ⟨_, s8 _ _ (s7 _ _ hp6), fun l nl => qs _ rfl l _ (((s6.trans s7).trans s8).trans (same_new nl)) upd_same⟩
      · have e : ¬ pk 0 (diff os N') = row := fun h => e (by rw [h])
        rw [if_neg e] at qn
        exact qn rfl H8 ((s6.trans s7).trans s8)
end
section
variable {P : Program} {w : World} {K : PySem.W.Frag} {mg : Str → Option Value} {base : Heap}
theorem ok__law_bag (S : Src K mg "_law_bag" s__law_bag) (T : Tx P K mg)   : Cal P w K mg base CX0 1 "_law_bag" ["_law_script"] (spBag K) := by
  refine S.cal sc__law_bag bn__law_bag (fun vs H Q E h => ?_) (fun f cdv A outer s H vs Q E hr h => ?_)
  · first | (obtain ⟨rfl, _⟩ := h; rfl) | (obtain ⟨_, rfl, _⟩ := h; rfl) | (obtain ⟨_, _, rfl, _⟩ := h; rfl) | (obtain ⟨_, _, _, rfl, _⟩ := h; rfl) | (obtain ⟨_, _, _, _, rfl, _⟩ := h; rfl) | (obtain ⟨_, _, _, _, _, rfl, _⟩ := h; rfl) | (obtain ⟨_, _, _, _, _, _, rfl, _⟩ := h; rfl)
  · skip
    refine ⟨_, (pss_cons (ps_set (i := 1) sc__law_bag.nd rfl (Or.inl rfl) pe_int)
        (pss_cons (ps_for PassesOwn.never rfl (pi_list (pv 0)) (pg_name (i := 2) sc__law_bag.nd rfl (Or.inl rfl)) (pss_one (ps_set (i := 1) sc__law_bag.nd rfl (Or.inl rfl) (pe_op op_mod (Fx.pe_cTy Fx.int_I T.b_int (by decide +kernel) (Fx.pa_c (pe_op op_add (pe_op op_add (pe_op op_mul (pv 1) pe_int) (pv 2)) pe_int) pa_nil)) pe_int))))
        (pss_one (ps_ret (pe_disp (pps_cons pe_str (pe_lc (own := [("_law_cell", 2)]) rfl sc__law_bag.nd (pi_list (pv 0)) (blkOk_by (N := N__law_bag) (sc := defScope s__law_bag) (by decide +kernel)) (fun _ _ _ _ _ => (pg_name (i := 2) sc__law_bag.nd rfl (Or.inl rfl))) (fun _ _ _ _ _ => pts_nil) (fun _ _ _ _ _ => (pv 2))) (pps_cons pe_str pe_int (pps_cons pe_str pe_int (pps_cons pe_str (pv 1) (pps_cons pe_str pe_int pps_nil))))) (by rfl) (by rfl) (fun z => by cases z) (by decide)))))), ?_⟩
    obtain ⟨a, ns, rfl, hS, hlen, q⟩ := h
    refine seqI fun K1 k1 => ?_
    walk_at "rd"
    refine k1 _ _ ?_
    refine seqI fun K2 k2 => ?_
    refine ⟨_, rfl, a, rfl, ⟨_, hS⟩, for_list (K := K) (a := a) (xs := ns.map V.int) (fun i σ H' => ∃ (m : Int) (v : Option V), σ = [some (.ref a), some (.int m), v] ∧ H' = H) ⟨7, none, rfl, rfl⟩ (fun i σ H' _ ⟨_, _, _, e⟩ => by rw [e]; exact hS) ?_ ?_⟩
    · rintro i y σ H' hi ⟨m, v, rfl, rfl⟩
      obtain ⟨z, rfl⟩ : ∃ z, y = V.int z := by
        rw [List.getElem?_map] at hi
        cases e : ns[i]? with
        | none => rw [e] at hi; cases hi
        | some z => rw [e] at hi; exact ⟨z, (Option.some.inj hi).symm⟩
      walk_at "rd"
      exact ⟨.inr ⟨by decide, by decide⟩, by decide⟩
    · rintro σ H' ⟨m, v, rfl, rfl⟩
      refine k2 _ _ ?_
      intro p np
      refine ⟨.ref a, rfl, a, rfl, ⟨_, (same_new np).seq hS⟩, fun D hD => ?_⟩
      have hDp : D ≠ p := fun e => by rw [e, upd_same] at hD; cases hD
      refine lc_list (K := K) (a := a) (xs := ns.map V.int) (fun i H2 => H2 = upd (upd H' p (.dK [])) D (.lst ((ns.map V.int).take i))) rfl (fun i H2 _ e => ?_) ?_ ?_
      · rw [e]
        exact ((same_new np).trans (same_new hD)).seq hS
      · rintro i x H2 hx rfl
        refine ⟨rfl, ?_⟩
        walk_at "rd"
        refine ⟨?_, ?_⟩
        · rw [List.length_take]
          exact Nat.lt_of_le_of_lt (Nat.min_le_right _ _) (by rw [List.length_map]; exact Nat.lt_of_le_of_lt hlen (by decide))
        · rw [upd_upd, List.take_add_one, hx]
          rfl
      · rintro H2 rfl
        simp only [tPairs]
        walk_at "rd"
        have hpD : p ≠ D := fun e => hDp e.symm
        refine ⟨by rw [upd_ne hpD, upd_same], [(.inr "cells", .ref D), (.inr "at", .int 0), (.inr "rest", .int 0), (.inr "mixed", .int m), (.inr "count", .int 0)], rfl, (show 5 ≤ 15 by decide), ?_⟩
        refine q p _ (fun b o e => ?_) np ⟨D, ns, 0, 0, m, 0, upd_same, ?_, by decide⟩
        · rw [upd_ne (ne_of_none e np), upd_ne (ne_of_none (same_new np (o := .dK []) b o e) hD), upd_ne (ne_of_none e np)]
          exact e
        · rw [upd_ne hDp, upd_same, List.take_length]
end
section
variable {P : Program} {w : World} {K : PySem.W.Frag} {mg : Str → Option Value} {base : Heap}
theorem ok__law_pick (S : Src K mg "_law_pick" s__law_pick) (T : Tx P K mg)   : Cal P w K mg base CX0 1 "_law_pick" ["_law_bag_here", "_law_many"] spPick := by
  refine S.cal sc__law_pick bn__law_pick (fun vs H Q E h => ?_) (fun f cdv A outer s H vs Q E hr h => ?_)
  · first | (obtain ⟨rfl, _⟩ := h; rfl) | (obtain ⟨_, rfl, _⟩ := h; rfl) | (obtain ⟨_, _, rfl, _⟩ := h; rfl) | (obtain ⟨_, _, _, rfl, _⟩ := h; rfl) | (obtain ⟨_, _, _, _, rfl, _⟩ := h; rfl) | (obtain ⟨_, _, _, _, _, rfl, _⟩ := h; rfl) | (obtain ⟨_, _, _, _, _, _, rfl, _⟩ := h; rfl)
  · skip
    refine ⟨_, (pss_cons (ps_dput (hu_of hr) (pv 0) pe_str (pe_op op_add (pe_dget (hu_of hr) (pv 0) pe_str (fun _ _ => rfl)) pe_int) rfl)
        (pss_cons (ps_if (pt_cmpR op_gt (pe_dget (hu_of hr) (pv 0) pe_str (fun _ _ => rfl)) pe_int (nomark _)) (pss_cons (ps_set (i := 2) sc__law_pick.nd rfl (Or.inl rfl) (pe_dget (hu_of hr) (pv 0) pe_str (fun _ _ => rfl)))
        (pss_cons (ps_dput (hu_of hr) (pv 0) pe_str (pe_op op_fdiv (pv 2) (pv 1)) rfl)
        (pss_one (ps_ret (pe_op op_mod (Fx.pe_cTy Fx.int_I T.b_int (by decide +kernel) (Fx.pa_c (pv 2) pa_nil)) (pv 1)))))) pss_nil)
        (pss_cons (ps_set (i := 3) sc__law_pick.nd rfl (Or.inl rfl) pe_int)
        (pss_cons (ps_if (pt_cmpR op_lt (pe_dget (hu_of hr) (pv 0) pe_str (fun _ _ => rfl)) (Fx.pe_cB Fx.len_L T.b_len (by decide +kernel) (Fx.pa_c (pe_dget (hu_of hr) (pv 0) pe_str (fun _ _ => rfl)) pa_nil)) (nomark _)) (pss_cons (ps_set (i := 3) sc__law_pick.nd rfl (Or.inl rfl) (pe_ix Fx.ix_L (pe_dget (hu_of hr) (pv 0) pe_str (fun _ _ => rfl)) (pe_dget (hu_of hr) (pv 0) pe_str (fun _ _ => rfl)) (fun _ _ => rfl)))
        (pss_cons (ps_dput (hu_of hr) (pv 0) pe_str (pe_op op_add (pe_dget (hu_of hr) (pv 0) pe_str (fun _ _ => rfl)) pe_int) rfl)
        (pss_one (ps_if (pt_cmpR op_ge (pv 3) (pe_op op_pow pe_int pe_int) (nomark _)) (pss_cons (ps_dput (hu_of hr) (pv 0) pe_str (pe_op op_fdiv (pv 3) (pv 1)) rfl)
        (pss_one (ps_ret (pe_op op_mod (Fx.pe_cTy Fx.int_I T.b_int (by decide +kernel) (Fx.pa_c (pv 3) pa_nil)) (pv 1))))) pss_nil)))) pss_nil)
        (pss_cons (ps_set (i := 2) sc__law_pick.nd rfl (Or.inl rfl) (pe_op op_mod (Fx.pe_cTy Fx.int_I T.b_int (by decide +kernel) (Fx.pa_c (pe_op op_add (pe_op op_add (pe_op op_mul (pv 3) pe_int) (pe_op op_mul (pe_dget (hu_of hr) (pv 0) pe_str (fun _ _ => rfl)) pe_int)) (pe_op op_mul (pe_dget (hu_of hr) (pv 0) pe_str (fun _ _ => rfl)) pe_int)) pa_nil)) pe_int))
        (pss_cons (ps_set (i := 2) sc__law_pick.nd rfl (Or.inl rfl) (pe_op op_mod (Fx.pe_cTy Fx.int_I T.b_int (by decide +kernel) (Fx.pa_c (pe_op op_add (pe_op op_mul (pv 2) pe_int) pe_int) pa_nil)) pe_int))
        (pss_cons (ps_dput (hu_of hr) (pv 0) pe_str (pe_op op_mod (Fx.pe_cTy Fx.int_I T.b_int (by decide +kernel) (Fx.pa_c (pv 2) pa_nil)) pe_int) rfl)
        (pss_one (ps_ret (pe_op op_mod (Fx.pe_cTy Fx.int_I T.b_int (by decide +kernel) (Fx.pa_c (pe_op op_fdiv (pv 2) pe_int) pa_nil)) (pv 1))))))))))), ?_⟩
    obtain ⟨b, many, rfl, ⟨c, ns, a, r, m, n, hb, hc, ha⟩, h0, h1, q⟩ := h
    have hcb : c ≠ b := ne_of hc hb (by intro z; cases z)
    have hu : ∀ o, upd H b o c = some (.lst (ns.map V.int)) := fun o => by rw [upd_ne hcb]; exact hc
    walk_at "rd"
    simp only [dget_s hb, dput_s hb bag_len, dget_su, dput_su bag_len, bag_cells, bag_at, bag_rest, bag_mixed, bag_count, bag_atP, bag_restP, bag_mixedP, bag_countP, Option.some.injEq, exists_eq_left, exists_eq_left', V.int.injEq, V.ref.injEq, HO.lst.injEq, hu]
    have fin : ∀ (x y z u : Int) (n : Int), 0 ≤ n → n < many → 0 ≤ x → Q (.int n) (upd H b (.dK (bagKV c x y z u))) := fun x y z u n g1 g2 g3 =>
      q n _ g1 g2 ⟨fun p o hp e => by rw [upd_ne hp]; exact e, ⟨c, ns, x, y, z, u, upd_same, hu _, g3⟩, fun c' ⟨ns', x', y', z', u', e1, e2, e3⟩ => by
        rw [hb] at e1
        have ec : c = c' := by
          simp only [Option.some.injEq, HO.dK.injEq, bagKV, List.cons.injEq, Prod.mk.injEq, V.ref.injEq, true_and] at e1
          exact e1.1
        subst ec
        exact ⟨ns, x, y, z, u, upd_same, hu _, g3⟩⟩
    have mm : ∀ x : Int, 0 ≤ x % many ∧ x % many < many := fun x => ⟨Int.emod_nonneg _ (by omega), Int.emod_lt_of_pos _ h0⟩
    refine ite_i (fun hr => ⟨⟨h0, h1⟩, h0, fin _ _ _ _ _ (mm _).1 (mm _).2 ha⟩) (fun hr => ?_)
    refine ite_i (fun hl => ?_) (fun hl => ?_)
    · obtain ⟨x, ex⟩ := atI_ok ha hl
      refine ⟨.int x, ex, ?_⟩
      simp only [V.int.injEq, exists_eq_left', exists_eq_left]
      refine ⟨⟨by decide, by decide, by decide⟩, ite_i (fun hx => ⟨⟨h0, h1⟩, h0, fin _ _ _ _ _ (mm _).1 (mm _).2 (by omega)⟩) (fun hx => ?_)⟩
      exact ⟨.inr ⟨by decide, by decide⟩, .inr ⟨by decide, by decide⟩, .inr ⟨by decide, by decide⟩, by decide, .inr ⟨by decide, by decide⟩, by decide, by decide, ⟨by decide, by decide⟩, h0, fin _ _ _ _ _ (mm _).1 (mm _).2 (by omega)⟩
    · exact ⟨.inr ⟨by decide, by decide⟩, .inr ⟨by decide, by decide⟩, .inr ⟨by decide, by decide⟩, by decide, .inr ⟨by decide, by decide⟩, by decide, by decide, ⟨by decide, by decide⟩, h0, fin _ _ _ _ _ (mm _).1 (mm _).2 ha⟩
end
section
variable {P : Program} {w : World} {K : PySem.W.Frag} {mg : Str → Option Value} {base : Heap}
theorem ok__law_choice (S : Src K mg "_law_choice" s__law_choice) (T : Tx P K mg) (C__law_pick : Cal P w K mg base CX0 1 "_law_pick" ["_law_bag_here", "_law_many"] spPick)  : Cal P w K mg base CX0 2 "_law_choice" ["_law_bag_here", "_law_things"] spChoiceL := by
  refine S.cal sc__law_choice bn__law_choice (fun vs H Q E h => ?_) (fun f cdv A outer s H vs Q E hr h => ?_)
  · first | (obtain ⟨rfl, _⟩ := h; rfl) | (obtain ⟨_, rfl, _⟩ := h; rfl) | (obtain ⟨_, _, rfl, _⟩ := h; rfl) | (obtain ⟨_, _, _, rfl, _⟩ := h; rfl) | (obtain ⟨_, _, _, _, rfl, _⟩ := h; rfl) | (obtain ⟨_, _, _, _, _, rfl, _⟩ := h; rfl) | (obtain ⟨_, _, _, _, _, _, rfl, _⟩ := h; rfl)
  · skip
    refine ⟨_, (pss_one (ps_ret (pe_ix Fx.ix_L (pv 1) (Fx.pe_cal C__law_pick (hr.mono (by decide)) pass0 (Fx.pa_c (pv 0) (Fx.pa_c (Fx.pe_cB Fx.len_L T.b_len (by decide +kernel) (Fx.pa_c (pv 1) pa_nil)) pa_nil))) (fun _ _ => rfl)))), ?_⟩
    obtain ⟨b, p, xs, rfl, hB, hp, h0, h1, q⟩ := h
    walk_at "rd"
    simp only [hp, Option.some.injEq, HO.lst.injEq, exists_eq_left']
    refine ⟨b, _, rfl, hB, by omega, by omega, fun n H' n0 n1 kp => ?_⟩
    obtain ⟨v, hv, hm⟩ := atI_mem n0 n1
    exact ⟨n, rfl, _, kp.lst hB hp, v, hv, q v H' hm kp⟩
end
section
variable {P : Program} {w : World} {K : PySem.W.Frag} {mg : Str → Option Value} {base : Heap}
theorem ok__law_one_in (S : Src K mg "_law_one_in" s__law_one_in) (T : Tx P K mg) (C__law_pick : Cal P w K mg base CX0 1 "_law_pick" ["_law_bag_here", "_law_many"] spPick)  : Cal P w K mg base CX0 2 "_law_one_in" ["_law_bag_here", "_law_many"] spOneIn := by
  refine S.cal sc__law_one_in bn__law_one_in (fun vs H Q E h => ?_) (fun f cdv A outer s H vs Q E hr h => ?_)
  · first | (obtain ⟨rfl, _⟩ := h; rfl) | (obtain ⟨_, rfl, _⟩ := h; rfl) | (obtain ⟨_, _, rfl, _⟩ := h; rfl) | (obtain ⟨_, _, _, rfl, _⟩ := h; rfl) | (obtain ⟨_, _, _, _, rfl, _⟩ := h; rfl) | (obtain ⟨_, _, _, _, _, rfl, _⟩ := h; rfl) | (obtain ⟨_, _, _, _, _, _, rfl, _⟩ := h; rfl)
  · skip
    refine ⟨_, (pss_one (ps_ret (pe_cmpR op_eq (Fx.pe_cal C__law_pick (hr.mono (by decide)) pass0 (Fx.pa_c (pv 0) (Fx.pa_c (pv 1) pa_nil))) pe_int (nomark _)))), ?_⟩
    obtain ⟨b, m, rfl, hB, h0, h1, q⟩ := h
    walk_at "rd"
    refine ⟨b, m, rfl, hB, h0, h1, fun n H' n0 n1 kp => ?_⟩
    walk_at "rd"
    exact q _ H' kp
end
section
variable {P : Program} {w : World} {K : PySem.W.Frag} {mg : Str → Option Value} {base : Heap}
theorem ok__law_integer (S : Src K mg "_law_integer" s__law_integer) (T : Tx P K mg)   : Cal P w K mg base CX0 1 "_law_integer" ["_law_thing"] spInteger := by
  refine S.cal sc__law_integer bn__law_integer (fun vs H Q E h => ?_) (fun f cdv A outer s H vs Q E hr h => ?_)
  · first | (obtain ⟨rfl, _⟩ := h; rfl) | (obtain ⟨_, rfl, _⟩ := h; rfl) | (obtain ⟨_, _, rfl, _⟩ := h; rfl) | (obtain ⟨_, _, _, rfl, _⟩ := h; rfl) | (obtain ⟨_, _, _, _, rfl, _⟩ := h; rfl) | (obtain ⟨_, _, _, _, _, rfl, _⟩ := h; rfl) | (obtain ⟨_, _, _, _, _, _, rfl, _⟩ := h; rfl)
  · skip
    refine ⟨_, (pss_one (ps_ret (pe_and (Fx.pe_cB Fx.is_B T.b_isinstance (by decide +kernel) (Fx.pa_c (pv 0) (Fx.pa_c (pe_bltn (v := .ty "int") (by rfl) T.b_int (by decide +kernel) rfl) pa_nil))) (pe_one (pe_not (Fx.pe_cB Fx.is_B T.b_isinstance (by decide +kernel) (Fx.pa_c (pv 0) (Fx.pa_c (pe_bltn (v := .ty "bool") (by rfl) T.b_bool (by decide +kernel) rfl) pa_nil)))))))), ?_⟩
    obtain ⟨i, rfl, q⟩ := h
    walk_at "rd"
    exact q
end
section
variable {P : Program} {w : World} {K : PySem.W.Frag} {mg : Str → Option Value} {base : Heap}
theorem ok__law_length (S : Src K mg "_law_length" s__law_length) (T : Tx P K mg) (C__law_pick : Cal P w K mg base CX0 1 "_law_pick" ["_law_bag_here", "_law_many"] spPick)  : Cal P w K mg base CX0 2 "_law_length" ["_law_bag_here"] spLength := by
  refine S.cal sc__law_length bn__law_length (fun vs H Q E h => ?_) (fun f cdv A outer s H vs Q E hr h => ?_)
  · first | (obtain ⟨rfl, _⟩ := h; rfl) | (obtain ⟨_, rfl, _⟩ := h; rfl) | (obtain ⟨_, _, rfl, _⟩ := h; rfl) | (obtain ⟨_, _, _, rfl, _⟩ := h; rfl) | (obtain ⟨_, _, _, _, rfl, _⟩ := h; rfl) | (obtain ⟨_, _, _, _, _, rfl, _⟩ := h; rfl) | (obtain ⟨_, _, _, _, _, _, rfl, _⟩ := h; rfl)
  · skip
    refine ⟨_, (pss_cons (ps_set (i := 1) sc__law_length.nd rfl (Or.inl rfl) (Fx.pe_cal C__law_pick (hr.mono (by decide)) pass0 (Fx.pa_c (pv 0) (Fx.pa_c pe_int pa_nil))))
        (pss_cons (ps_if (pt_cmpR op_lt (pv 1) pe_int (nomark _)) (pss_one (ps_ret (pe_op op_add pe_int (Fx.pe_cal C__law_pick (hr.mono (by decide)) pass0 (Fx.pa_c (pv 0) (Fx.pa_c pe_int pa_nil)))))) pss_nil)
        (pss_cons (ps_if (pt_cmpR op_eq (pv 1) pe_int (nomark _)) (pss_one (ps_ret pe_int)) pss_nil)
        (pss_cons (ps_if (pt_cmpR op_eq (pv 1) pe_int (nomark _)) (pss_one (ps_ret (pe_op op_add pe_int (Fx.pe_cal C__law_pick (hr.mono (by decide)) pass0 (Fx.pa_c (pv 0) (Fx.pa_c pe_int pa_nil)))))) pss_nil)
        (pss_one (ps_ret (pe_op op_add pe_int (Fx.pe_cal C__law_pick (hr.mono (by decide)) pass0 (Fx.pa_c (pv 0) (Fx.pa_c pe_int pa_nil)))))))))), ?_⟩
    obtain ⟨b, rfl, hB, q⟩ := h
    walk_at "rd"
    refine ⟨b, 8, rfl, hB, by decide, by decide, fun n H1 n0 n1 kp => ?_⟩
    walk_at "rd"
    refine ite_i (fun h => ⟨b, 5, rfl, kp.bag, by decide, by decide, fun m H2 m0 m1 kp2 => ?_⟩) (fun h => ite_i (fun h2 => q 60 H1 (by decide) (by decide) kp) (fun h2 => ite_i (fun h3 => ⟨b, 13, rfl, kp.bag, by decide, by decide, fun m H2 m0 m1 kp2 => ?_⟩) (fun h3 => ⟨b, 7, rfl, kp.bag, by decide, by decide, fun m H2 m0 m1 kp2 => ?_⟩)))
    · walk_at "rd"
      exact q _ H2 (by omega) (by omega) (kp.trans kp2)
    · walk_at "rd"
      exact q _ H2 (by omega) (by omega) (kp.trans kp2)
    · walk_at "rd"
      exact q _ H2 (by omega) (by omega) (kp.trans kp2)
end
section
variable {P : Program} {w : World} {K : PySem.W.Frag} {mg : Str → Option Value} {base : Heap}
theorem ok__law_stretch (S : Src K mg "_law_stretch" s__law_stretch) (T : Tx P K mg) (C__law_pick : Cal P w K mg base CX0 1 "_law_pick" ["_law_bag_here", "_law_many"] spPick)  : Cal P w K mg base CX0 2 "_law_stretch" ["_law_bag_here", "_law_many", "_law_is_equal"] spStretch := by
  refine S.cal sc__law_stretch bn__law_stretch (fun vs H Q E h => ?_) (fun f cdv A outer s H vs Q E hr h => ?_)
  · first | (obtain ⟨rfl, _⟩ := h; rfl) | (obtain ⟨_, rfl, _⟩ := h; rfl) | (obtain ⟨_, _, rfl, _⟩ := h; rfl) | (obtain ⟨_, _, _, rfl, _⟩ := h; rfl) | (obtain ⟨_, _, _, _, rfl, _⟩ := h; rfl) | (obtain ⟨_, _, _, _, _, rfl, _⟩ := h; rfl) | (obtain ⟨_, _, _, _, _, _, rfl, _⟩ := h; rfl)
  · skip
    refine ⟨_, (pss_cons (ps_set (i := 3) sc__law_stretch.nd rfl (Or.inr rfl) (Fx.pe_cal C__law_pick (hr.mono (by decide)) pass0 (Fx.pa_c (pv 0) (Fx.pa_c pe_int pa_nil))))
        (pss_cons (ps_set (i := 4) sc__law_stretch.nd rfl (Or.inr rfl) (Fx.pe_cal C__law_pick (hr.mono (by decide)) pass0 (Fx.pa_c (pv 0) (Fx.pa_c pe_int pa_nil))))
        (pss_cons (ps_set (i := 5) sc__law_stretch.nd rfl (Or.inl rfl) (pe_op op_add pe_int (Fx.pe_cal C__law_pick (hr.mono (by decide)) pass0 (Fx.pa_c (pv 0) (Fx.pa_c pe_int pa_nil)))))
        (pss_cons (ps_set (i := 6) sc__law_stretch.nd rfl (Or.inl rfl) (Fx.pe_cal C__law_pick (hr.mono (by decide)) pass0 (Fx.pa_c (pv 0) (Fx.pa_c pe_int pa_nil))))
        (pss_cons (ps_setLc (i := 8) (own := [("_law_k", 7)]) rfl sc__law_stretch.nd rfl rfl (sw_true rfl rfl rfl (by decide +kernel)) (pi_range1 rfl T.b_range (Fx.pa_c (pv 1) pa_nil)) (blkOk_by (N := N__law_stretch) (sc := defScope s__law_stretch) (by decide +kernel)) (fun _ _ _ _ _ => (pg_name (i := 7) sc__law_stretch.nd rfl (Or.inl rfl))) (fun _ _ _ _ _ => pts_nil) (fun _ _ _ _ _ => (pe_op op_mod (Fx.pe_cTy Fx.int_I T.b_int (by decide +kernel) (Fx.pa_c (pe_op op_add (pv 3) (pe_op op_mul (pv 7) (pv 4))) pa_nil)) pe_int)))
        (pss_cons (ps_if (pt_val (pv 2)) (pss_one (ps_ret (pe_tup (Fx.pa_c (pv 8) (Fx.pa_c (Fx.pe_cTy Fx.list_L T.b_list (by decide +kernel) (Fx.pa_c (pv 8) pa_nil)) pa_nil))))) pss_nil)
        (pss_cons (ps_set (i := 9) sc__law_stretch.nd rfl (Or.inl rfl) (pe_lst pa_nil))
        (pss_cons (ps_for PassesOwn.never rfl (pi_range1 rfl T.b_range (Fx.pa_c (pv 1) pa_nil)) (pg_name (i := 7) sc__law_stretch.nd rfl (Or.inl rfl)) (pss_one (ps_expr (pe_bm PySem.F.plainAttrs_list PySem.F.slot_list_append PySem.F.type_list_append mt_append (pv 9) (Fx.pa_c (pe_op op_mod (Fx.pe_cTy Fx.int_I T.b_int (by decide +kernel) (Fx.pa_c (pe_op op_add (pe_op op_add (pe_ix Fx.ix_L (pv 8) (pv 7) (fun _ _ => rfl)) pe_int) (pe_op op_mod (Fx.pe_cTy Fx.int_I T.b_int (by decide +kernel) (Fx.pa_c (pe_op op_add (pe_op op_sub (pv 5) pe_int) (pe_op op_mul (pv 7) (pv 6))) pa_nil)) pe_int)) pa_nil)) pe_int) pa_nil)))))
        (pss_one (ps_ret (pe_tup (Fx.pa_c (pv 8) (Fx.pa_c (pv 9) pa_nil))))))))))))), ?_⟩
    obtain ⟨b, m, e, rfl, hB, m0, m1, q⟩ := h
    refine seqI fun K1 k1 => ?_
    walk_at "rd"
    refine ⟨b, 256, rfl, hB, by decide, by decide, fun x1 H1 _ _ kp1 => k1 _ _ ?_⟩
    clear k1
    refine seqI fun K1 k1 => ?_
    walk_at "rd"
    refine ⟨b, 256, rfl, kp1.bag, by decide, by decide, fun x2 H2 _ _ kp2 => k1 _ _ ?_⟩
    clear k1
    refine seqI fun K1 k1 => ?_
    walk_at "rd"
    refine ⟨b, 255, rfl, kp2.bag, by decide, by decide, fun x3 H3 _ _ kp3 => ⟨x3, rfl, k1 _ _ ?_⟩⟩
    clear k1
    refine seqI fun K1 k1 => ?_
    walk_at "rd"
    refine ⟨b, 3, rfl, kp3.bag, by decide, by decide, fun x4 H4 _ _ kp4 => k1 _ _ ?_⟩
    clear k1
    have kp := ((kp1.trans kp2).trans kp3).trans kp4
    clear kp1 kp2 kp3 kp4
    refine seqI fun K1 k1 => ?_
    refine ⟨.int m, rfl, m, rfl, by omega, by omega, fun D nD => ?_⟩
    refine lc_range (lo := 0) (n := m.toNat) (fun i H5 => H5 = upd H4 D (.lst (mi (gen (fun k => x1 + (k : Nat) * x2) i)))) rfl ?_ ?_
    · rintro i H5 hi rfl
      refine ⟨rfl, ?_⟩
      walk_at "rd"
      rw [Int.zero_add]
      refine ⟨.inl ⟨by omega, by omega⟩, by decide, ?_, ?_⟩
      · rw [mi_len, gen_len]
        exact Nat.lt_of_lt_of_le (by omega : _ < 1000) (by decide)
      · rw [upd_upd, gen_succ, mi_app]
        rfl
    rintro H5 rfl
    refine k1 _ _ ?_
    clear k1
    have kp5 := kp.then (same_new (o := .lst (mi (gen (fun k => x1 + (k : Nat) * x2) m.toNat))) nD)
    have hD : (upd H4 D (.lst (mi (gen (fun k => x1 + (k : Nat) * x2) m.toNat)))) D = some (.lst (mi (gen (fun k => x1 + (k : Nat) * x2) m.toNat))) := upd_same
    have bO := gen_byt (fun k => x1 + (k : Nat) * x2) m.toNat
    have lO := gen_len (fun k => x1 + (k : Nat) * x2) m.toNat
    generalize gen (fun k => x1 + (k : Nat) * x2) m.toNat = os at kp5 hD bO lO
    generalize upd H4 D (.lst (mi os)) = H5 at kp5 hD
    clear nD kp
    refine seqI fun K1 k1 => ?_
    refine ifI fun A B ka kb => ?_
    walk_at "rd"
    refine ite_i (fun he => ka _ ?_) (fun he => kb _ ?_)
    · clear ka kb k1
      walk_at "rd"
      refine ⟨_, hD, fun l nl => ⟨by decide, fun t nt => ?_⟩⟩
      have s1 := same_new (o := .lst (mi os)) nl
      have s2 := same_new (o := .tup [.ref D, .ref l]) nt
      exact q t D l os os _ ((kp5.then s1).then s2) (kp5.free nl) upd_same (s2 _ _ (s1 _ _ hD)) (s2 _ _ upd_same) lO lO bO bO
    clear ka kb
    walk_at "rd"
    refine k1 _ _ ?_
    clear k1
    refine seqI fun K1 k1 => ?_
    walk_at "rd"
    refine ⟨by decide, fun l nl => k1 _ _ ?_⟩
    clear k1
    have s1 := same_new (o := .lst []) nl
    refine seqI fun K2 k2 => ?_
    have hDl : D ≠ l := none_ne hD nl
    refine ⟨.int m, rfl, m, rfl, by omega, by omega, for_range (lo := 0) (n := m.toNat) (fun i σ H6 => ∃ (v : Option V) (ns : List Int), σ = [some (.ref b), some (.int m), some (.bl e), some (.int x1), some (.int x2), some (.int (1 + x3)), some (.int x4), v, some (.ref D), some (.ref l)] ∧ H6 = upd H5 l (.lst (mi ns)) ∧ ns.length = i ∧ Byt ns) ⟨none, [], rfl, rfl, rfl, fun x hx => by (cases hx)⟩ ?_ ?_⟩
    · rintro i σ H6 hi ⟨v, ns, rfl, rfl, hns, bN⟩
      have hi2 : i < os.length := by omega
      clear k2
      walk_at "rd"
      rw [Int.zero_add]
      refine ⟨tyL upd_same, _, by rw [upd_ne hDl]; exact hD, _, atI_get (mapI_get hi2), _, rfl, .inl ⟨by omega, by omega⟩, by decide, by decide, ?_, ns ++ [(os[i] + 1 + (1 + x3 - 1 + (i : Int) * x4) % 255) % 256], ?_, ?_, ?_⟩
      · rw [mi_len]
        exact Nat.lt_of_lt_of_le (by omega : _ < 1000) (by decide)
      · rw [upd_upd, mi_app]
        rfl
      · rw [List.length_append]
        show ns.length + 1 = _
        omega
      · intro x hx
        rcases List.mem_append.mp hx with hx | hx
        · exact bN x hx
        · rw [List.mem_singleton.mp hx]
          omega
    · rintro σ H6 ⟨v, ns, rfl, rfl, hns, bN⟩
      refine k2 _ _ ?_
      walk_at "rd"
      refine ⟨by decide, fun t nt => ?_⟩
      have s2 := same_new (o := .lst (mi ns)) nl
      have s3 := same_new (o := .tup [.ref D, .ref l]) nt
      exact q t D l os ns _ ((kp5.then s2).then s3) (kp5.free nl) upd_same (s3 _ _ (s2 _ _ hD)) (s3 _ _ upd_same) lO hns bO bN
end
section
variable {P : Program} {w : World} {K : PySem.W.Frag} {mg : Str → Option Value} {base : Heap}
theorem ok__law_pair (S : Src K mg "_law_pair" s__law_pair) (T : Tx P K mg) (C__law_pick : Cal P w K mg base CX0 1 "_law_pick" ["_law_bag_here", "_law_many"] spPick) (C__law_one_in : Cal P w K mg base CX0 2 "_law_one_in" ["_law_bag_here", "_law_many"] spOneIn) (C__law_length : Cal P w K mg base CX0 2 "_law_length" ["_law_bag_here"] spLength) (C__law_stretch : Cal P w K mg base CX0 2 "_law_stretch" ["_law_bag_here", "_law_many", "_law_is_equal"] spStretch)  : Cal P w K mg base CX0 3 "_law_pair" ["_law_bag_here"] spPair := by
  refine S.cal sc__law_pair bn__law_pair (fun vs H Q E h => ?_) (fun f cdv A outer s H vs Q E hr h => ?_)
  · first | (obtain ⟨rfl, _⟩ := h; rfl) | (obtain ⟨_, rfl, _⟩ := h; rfl) | (obtain ⟨_, _, rfl, _⟩ := h; rfl) | (obtain ⟨_, _, _, rfl, _⟩ := h; rfl) | (obtain ⟨_, _, _, _, rfl, _⟩ := h; rfl) | (obtain ⟨_, _, _, _, _, rfl, _⟩ := h; rfl) | (obtain ⟨_, _, _, _, _, _, rfl, _⟩ := h; rfl)
  · skip
    refine ⟨_, (pss_cons (ps_set (i := 1) sc__law_pair.nd rfl (Or.inl rfl) (pe_lst pa_nil))
        (pss_cons (ps_set (i := 2) sc__law_pair.nd rfl (Or.inl rfl) (pe_lst pa_nil))
        (pss_cons (ps_set (i := 3) sc__law_pair.nd rfl (Or.inl rfl) (Fx.pe_cal C__law_pick (hr.mono (by decide)) pass0 (Fx.pa_c (pv 0) (Fx.pa_c pe_int pa_nil))))
        (pss_cons (ps_set (i := 4) sc__law_pair.nd rfl (Or.inl rfl) (Fx.pe_cal C__law_pick (hr.mono (by decide)) pass0 (Fx.pa_c (pv 0) (Fx.pa_c pe_int pa_nil))))
        (pss_cons (ps_for PassesOwn.never rfl (pi_range1 rfl T.b_range (Fx.pa_c (pv 4) pa_nil)) (pg_name (i := 5) sc__law_pair.nd rfl (Or.inl rfl)) (pss_cons (ps_set (i := 6) sc__law_pair.nd rfl (Or.inl rfl) (Fx.pe_cal C__law_one_in (hr.mono (by decide)) pass0 (Fx.pa_c (pv 0) (Fx.pa_c pe_int pa_nil))))
        (pss_cons (ps_if (PW.pt (pw_or (pt_cmpR op_eq (pv 3) pe_int (nomark _)) (pw_or (PW.pt (pw_and (pt_cmpR op_eq (pv 3) pe_int (nomark _)) (pw_and1 (pt_cmpR op_eq (pv 5) pe_int (nomark _))))) (pw_or1 (PW.pt (pw_and (pt_cmpR op_eq (pv 3) pe_int (nomark _)) (pw_and1 (pt_cmpR op_eq (pv 5) (pe_op op_sub (pv 4) pe_int) (nomark _))))))))) (pss_one (ps_set (i := 6) sc__law_pair.nd rfl (Or.inl rfl) pe_bl)) pss_nil)
        (pss_cons (ps_asg (Fx.pe_cal C__law_stretch (hr.mono (by decide)) pass0 (Fx.pa_c (pv 0) (Fx.pa_c (Fx.pe_cal C__law_length (hr.mono (by decide)) pass0 (Fx.pa_c (pv 0) pa_nil)) (Fx.pa_c (pv 6) pa_nil)))) (pg_tup rfl (pgs_cons (pg_name (i := 7) sc__law_pair.nd rfl (Or.inl rfl)) (pgs_cons (pg_name (i := 8) sc__law_pair.nd rfl (Or.inl rfl)) pgs_nil))))
        (pss_cons (ps_expr (pe_bm PySem.F.plainAttrs_list PySem.F.slot_list_extend PySem.F.type_list_extend mt_extend (pv 1) (Fx.pa_c (pv 7) pa_nil)))
        (pss_one (ps_expr (pe_bm PySem.F.plainAttrs_list PySem.F.slot_list_extend PySem.F.type_list_extend mt_extend (pv 2) (Fx.pa_c (pv 8) pa_nil)))))))))
        (pss_one (ps_ret (pe_tup (Fx.pa_c (pv 1) (Fx.pa_c (pv 2) pa_nil)))))))))), ?_⟩
    obtain ⟨b, rfl, hB, q⟩ := h
    refine seqI fun K1 k1 => ?_
    walk_at "rd"
    refine ⟨by decide, fun po no => k1 _ _ ?_⟩
    clear k1
    refine seqI fun K1 k1 => ?_
    walk_at "rd"
    refine ⟨by decide, fun pn nn => k1 _ _ ?_⟩
    clear k1
    have s1 := same_new (o := .lst []) no
    have s2 := same_new (o := .lst []) nn
    have nn' : H pn = none := s1.free nn
    have hne : po ≠ pn := fun e => by rw [e, upd_same] at nn; cases nn
    have kp0 := Kp.same hB (s1.trans s2)
    have ho0 : (upd (upd H po (.lst [])) pn (.lst [])) po = some (.lst (mi [])) := s2 _ _ upd_same
    have hn0 : (upd (upd H po (.lst [])) pn (.lst [])) pn = some (.lst (mi [])) := upd_same
    generalize upd (upd H po (.lst [])) pn (.lst []) = H0 at kp0 ho0 hn0
    clear s1 s2 nn
    refine seqI fun K1 k1 => ?_
    walk_at "rd"
    refine ⟨b, 6, rfl, kp0.bag, by decide, by decide, fun sh H1 sh0 sh1 kp1 => k1 _ _ ?_⟩
    clear k1
    refine seqI fun K1 k1 => ?_
    walk_at "rd"
    refine ⟨b, 8, rfl, kp1.bag, by decide, by decide, fun m H2 m0 m1 kp2 => k1 _ _ ?_⟩
    clear k1
    have ho2 := kp2.lst kp1.bag (kp1.lst kp0.bag ho0)
    have hn2 := kp2.lst kp1.bag (kp1.lst kp0.bag hn0)
    have kp := (kp0.trans kp1).trans kp2
    clear kp0 kp1 kp2 ho0 hn0
    refine seqI fun K1 k1 => ?_
    refine ⟨.int m, rfl, m, rfl, by omega, by omega, for_range (lo := 0) (n := m.toNat) (fun i σ H3 => ∃ (os ns : List Int) (v5 v6 v7 v8 : Option V), σ = [some (.ref b), some (.ref po), some (.ref pn), some (.int sh), some (.int m), v5, v6, v7, v8] ∧ H3 po = some (.lst (mi os)) ∧ H3 pn = some (.lst (mi ns)) ∧ os.length = ns.length ∧ ns.length ≤ 516 * i ∧ Byt os ∧ Byt ns ∧ Kp b H H3) ⟨[], [], none, none, none, none, rfl, ho2, hn2, rfl, Nat.zero_le _, byt_of rfl, byt_of rfl, kp⟩ ?_ ?_⟩
    · rintro i σ H3 hi ⟨os, ns, v5, v6, v7, v8, rfl, ho3, hn3, hl, hlen, bo, bn, kp3⟩
      clear k1 kp ho2 hn2
      refine seqI fun K2 k2 => ?_
      walk_at "rd"
      refine ⟨b, 2, rfl, kp3.bag, by decide, by decide, fun c H4 kp4 => k2 _ _ ?_⟩
      clear k2
      replace ho3 := kp4.lst kp3.bag ho3
      replace hn3 := kp4.lst kp3.bag hn3
      replace kp3 := kp3.trans kp4
      clear kp4
      refine seqI fun K2 k2 => ?_
      have go : ∀ c : Bool, K2 [some (.ref b), some (.ref po), some (.ref pn), some (.int sh), some (.int m), some (.int (0 + i)), some (.bl c), v7, v8] H4 := by
        intro c
        refine k2 _ _ ?_
        clear k2
        refine seqI fun K3 k3 => ?_
        refine ⟨.ref b, rfl, .ref b, rfl, b, rfl, kp3.bag, fun q5 H5 q0 q1 kp5 => ?_⟩
        refine ⟨.bl c, rfl, b, q5, c, rfl, kp5.bag, q0, q1, fun t o n os1 ns1 H6 kp6 nn6 ht ho hn l1 l2 b1 b2 => ?_⟩
        refine ⟨t, _, rfl, .inl (.inl ht), rfl, _, _, rfl, _, _, rfl, rfl, k3 _ _ ?_⟩
        clear k3
        have kp7 := kp5.trans kp6
        have ho7 := kp7.lst kp3.bag ho3
        have hn7 := kp7.lst kp3.bag hn3
        have kp8 := kp3.trans kp7
        have hnpo : n ≠ po := fun e => by rw [e, kp5.lst kp3.bag ho3] at nn6; cases nn6
        walk_at "rd"
        have hn8 : ∀ x, (upd H6 po (.lst x)) pn = some (.lst (mi ns)) := fun x => by rw [upd_ne hne.symm]; exact hn7
        refine ⟨tyL ho7, _, ho7, _, ho, (by rw [mi_len, mi_len]; exact sz (by omega)), tyL (hn8 _), _, hn8 _, _, (by rw [upd_ne hnpo]; exact hn), (by rw [mi_len, mi_len]; exact sz (by omega)), os ++ os1, (by rw [upd_ne hne, upd_same, mi_app]), ns ++ ns1, (mi_app ns ns1).symm, (by rw [List.length_append, List.length_append]; omega), (by rw [List.length_append]; omega), bo.app b1, bn.app b2, Kp.put hB (Kp.put hB kp8 no) nn'⟩
      refine ifI fun A B ka kb => ?_
      have gA : A H4 := by
        refine ka _ ?_
        walk_at "rd"
        exact go true
      have gB : B H4 := by
        refine kb _ ?_
        walk_at "rd"
        exact go c
      walk_at "rd"
      split
      · exact gA
      · split
        · split
          · exact gA
          · split
            · split
              · exact gA
              · exact gB
            · exact gB
        · split
          · split
            · exact gA
            · exact gB
          · exact gB
    · rintro σ H3 ⟨os, ns, v5, v6, v7, v8, rfl, ho3, hn3, hl, hlen, bo, bn, kp3⟩
      refine k1 _ _ ?_
      walk_at "rd"
      refine ⟨by decide, fun t nt => q t po pn os ns _ (kp3.then (same_new nt)) upd_same (same_new nt _ _ ho3) (same_new nt _ _ hn3) hl (by omega) bo bn⟩
end
section
variable {P : Program} {w : World} {K : PySem.W.Frag} {mg : Str → Option Value} {base : Heap}
theorem ok__law_differences (S : Src K mg "_law_differences" s__law_differences) (T : Tx P K mg)   : Cal P w K mg base CX0 1 "_law_differences" ["_law_old", "_law_new"] spDiff := by
  refine S.cal sc__law_differences bn__law_differences (fun vs H Q E h => ?_) (fun f cdv A outer s H vs Q E hr h => ?_)
  · first | (obtain ⟨rfl, _⟩ := h; rfl) | (obtain ⟨_, rfl, _⟩ := h; rfl) | (obtain ⟨_, _, rfl, _⟩ := h; rfl) | (obtain ⟨_, _, _, rfl, _⟩ := h; rfl) | (obtain ⟨_, _, _, _, rfl, _⟩ := h; rfl) | (obtain ⟨_, _, _, _, _, rfl, _⟩ := h; rfl) | (obtain ⟨_, _, _, _, _, _, rfl, _⟩ := h; rfl)
  · skip
    refine ⟨_, (pss_one (ps_ret (pe_lc (own := [("_law_k", 2)]) rfl sc__law_differences.nd (pi_range1 rfl T.b_range (Fx.pa_c (Fx.pe_cB Fx.len_L T.b_len (by decide +kernel) (Fx.pa_c (pv 0) pa_nil)) pa_nil)) (blkOk_by (N := N__law_differences) (sc := defScope s__law_differences) (by decide +kernel)) (fun _ _ _ _ _ => (pg_name (i := 2) sc__law_differences.nd rfl (Or.inl rfl))) (fun _ _ _ _ _ => pts_nil) (fun _ _ _ _ _ => (pe_op op_mod (Fx.pe_cTy Fx.int_I T.b_int (by decide +kernel) (Fx.pa_c (pe_op op_sub (pe_ix Fx.ix_L (pv 1) (pv 2) (fun _ _ => rfl)) (pe_ix Fx.ix_L (pv 0) (pv 2) (fun _ _ => rfl))) pa_nil)) pe_int))))), ?_⟩
    obtain ⟨o, n, os, ns, rfl, ho, hn, hl, hlen, q⟩ := h
    refine ⟨.ref o, rfl, o, _, rfl, ho, _, rfl, by omega, (by rw [mi_len]; omega), fun D nD => ?_⟩
    refine lc_range (lo := 0) (n := (((mi os).length : Nat) : Int).toNat) (fun i H3 => H3 = upd H D (.lst (mi ((diff os ns).take i)))) rfl ?_ ?_
    · rintro i H3 hi rfl
      have hi : i < os.length := by simpa using hi
      have hi2 : i < ns.length := by omega
      refine ⟨rfl, ?_⟩
      walk_at "rd"
      rw [Int.zero_add]
      refine ⟨_, same_new nD _ _ hn, _, atI_get (mapI_get hi2), _, same_new nD _ _ ho, _, atI_get (mapI_get hi), _, rfl, _, rfl, by decide, ?_, ?_⟩
      · rw [mi_len, List.length_take, diff_len]
        exact Nat.lt_of_lt_of_le (by omega : _ < 5000) (by decide)
      · rw [upd_upd, take_succ' (diff_get (List.getElem?_eq_getElem hi) (List.getElem?_eq_getElem hi2))]
    · rintro H3 rfl
      walk_at "rd"
      refine q D _ (same_new nD) nD ?_
      rw [upd_same, List.take_of_length_le]
      rw [diff_len]
      simp
      omega
end
section
variable {P : Program} {w : World} {K : PySem.W.Frag} {mg : Str → Option Value} {base : Heap}
theorem ok__law_packed (S : Src K mg "_law_packed" s__law_packed) (T : Tx P K mg)   : Cal P w K mg base CX0 1 "_law_packed" ["_law_row"] spPacked := by
  refine S.cal sc__law_packed bn__law_packed (fun vs H Q E h => ?_) (fun f cdv A outer s H vs Q E hr h => ?_)
  · first | (obtain ⟨rfl, _⟩ := h; rfl) | (obtain ⟨_, rfl, _⟩ := h; rfl) | (obtain ⟨_, _, rfl, _⟩ := h; rfl) | (obtain ⟨_, _, _, rfl, _⟩ := h; rfl) | (obtain ⟨_, _, _, _, rfl, _⟩ := h; rfl) | (obtain ⟨_, _, _, _, _, rfl, _⟩ := h; rfl) | (obtain ⟨_, _, _, _, _, _, rfl, _⟩ := h; rfl)
  · skip
    refine ⟨_, (pss_cons (ps_set (i := 1) sc__law_packed.nd rfl (Or.inl rfl) (pe_lst pa_nil))
        (pss_cons (ps_set (i := 2) sc__law_packed.nd rfl (Or.inl rfl) pe_int)
        (pss_cons (ps_for PassesOwn.never rfl (pi_list (pv 0)) (pg_name (i := 3) sc__law_packed.nd rfl (Or.inl rfl)) (pss_one (ps_if (pt_cmpR op_eq (pv 3) pe_int (nomark _)) (pss_one (ps_set (i := 2) sc__law_packed.nd rfl (Or.inl rfl) (pe_op op_add (pv 2) pe_int))) (pss_cons (ps_expr (pe_bm PySem.F.plainAttrs_list PySem.F.slot_list_extend PySem.F.type_list_extend mt_extend (pv 1) (Fx.pa_c (pe_op op_rep (pe_lst (Fx.pa_c pe_int (Fx.pa_c pe_int pa_nil))) (pe_op op_fdiv (pv 2) pe_int)) pa_nil)))
        (pss_cons (ps_if (pt_cmpR op_gt (pe_op op_mod (Fx.pe_cTy Fx.int_I T.b_int (by decide +kernel) (Fx.pa_c (pv 2) pa_nil)) pe_int) pe_int (nomark _)) (pss_one (ps_expr (pe_bm PySem.F.plainAttrs_list PySem.F.slot_list_extend PySem.F.type_list_extend mt_extend (pv 1) (Fx.pa_c (pe_lst (Fx.pa_c pe_int (Fx.pa_c (pe_op op_sub (pe_op op_mod (Fx.pe_cTy Fx.int_I T.b_int (by decide +kernel) (Fx.pa_c (pv 2) pa_nil)) pe_int) pe_int) pa_nil))) pa_nil)))) pss_nil)
        (pss_cons (ps_expr (pe_bm PySem.F.plainAttrs_list PySem.F.slot_list_append PySem.F.type_list_append mt_append (pv 1) (Fx.pa_c (pv 3) pa_nil)))
        (pss_one (ps_set (i := 2) sc__law_packed.nd rfl (Or.inl rfl) pe_int))))))))
        (pss_one (ps_ret (pv 1)))))), ?_⟩
    obtain ⟨a, ds, rfl, ha, hlen, q⟩ := h
    refine seqI fun K1 k1 => ?_
    walk_at "rd"
    refine ⟨by decide, fun p np => k1 _ _ ?_⟩
    clear k1
    refine seqI fun K2 k2 => ?_
    walk_at "rd"
    refine k2 _ _ ?_
    clear k2
    refine seqI fun K3 k3 => ?_
    have lpk := pk_len ds 0
    refine ⟨.ref a, rfl, a, rfl, ⟨_, .inl (.inl (same_new np _ _ ha))⟩, for_list (K := K) (a := a) (xs := mi ds) (fun i σ H' => ∃ (R : List Int) (z : Nat) (v : Option V), σ = [some (.ref a), some (.ref p), some (.int z), v] ∧ R ++ pk z (ds.drop i) = pk 0 ds ∧ z ≤ i ∧ H' p = some (.lst (mi R)) ∧ Same H H') ⟨[], 0, none, rfl, rfl, Nat.le_refl _, upd_same, same_new np⟩ (fun i σ H' _ ⟨_, _, _, _, _, _, _, e⟩ => .inl (.inl (e _ _ ha))) ?_ ?_⟩
    · rintro i x σ H' hx ⟨R, z, v, rfl, er, hz, hp, sH⟩
      obtain ⟨y, rfl, hy⟩ := mapI_some hx
      have hi := (List.getElem?_eq_some_iff.mp hy).1
      rw [drop_get hy] at er
      have lR : R.length ≤ 8000 := by
        have := congrArg List.length er
        rw [List.length_append] at this
        omega
      clear k3
      refine ifI fun A B ka kb => ?_
      walk_at "rd"
      refine ite_i (fun h0 => ka _ ?_) (fun h0 => kb _ ?_)
      · subst h0
        walk_at "rd"
        exact ⟨R, z + 1, by simp, er, by omega, hp, sH⟩
      clear ka kb A B
      rw [pk_nz h0] at er
      have lz : (zr z).length ≤ 8000 := by
        have := zr_len z
        omega
      have hpa : p ≠ a := fun e => by rw [e, ha] at np; cases np
      refine seqI fun K4 k4 => ?_
      walk_at "rd"
      refine ⟨tyL hp, by decide, fun p1 n1 => ⟨⟨by decide, by decide⟩, by omega, by omega, ?_, fun p2 n2 => ?_⟩⟩
      · show 2 * _ ≤ _
        exact sz (by omega)
      rw [zr1_mi] at *
      have s1 := same_new (o := .lst [.int 0, .int 255]) n1
      have s2 := same_new (o := .lst (mi (zr1 z))) n2
      have l1 := zr1_len z
      refine ⟨_, s2 _ _ (s1 _ _ hp), ?_, k4 _ _ ?_⟩
      · rw [mi_len, mi_len]
        exact sz (by omega)
      clear k4
      rw [← mi_app]
      have s3 := Same.put (o := .lst (mi (R ++ zr1 z))) ((sH.trans s1).trans s2) np
      have hp3 : (upd (upd (upd H' p1 (.lst [.int 0, .int 255])) p2 (.lst (mi (zr1 z)))) p (.lst (mi (R ++ zr1 z)))) p = some (.lst (mi (R ++ zr1 z))) := upd_same
      generalize upd (upd (upd H' p1 (.lst [.int 0, .int 255])) p2 (.lst (mi (zr1 z)))) p (.lst (mi (R ++ zr1 z))) = H3 at s3 hp3
      clear s1 s2 n1 n2
      refine seqI fun K5 k5 => ?_
      have fin : ∀ H4, H4 p = some (.lst (mi (R ++ zr z))) → Same H H4 → K5 [some (.ref a), some (.ref p), some (.int z), some (.int y)] H4 := by
        intro H4 hp4 s4
        refine k5 _ _ ?_
        walk_at "rd"
        refine ⟨tyL hp4, _, hp4, ?_, R ++ zr z ++ [y], 0, by simp, ?_, by omega, ?_, Same.put s4 np⟩
        · rw [mi_len, List.length_append]
          exact Nat.lt_of_lt_of_le (by omega : _ < 20000) (by decide)
        · rw [List.append_assoc, List.append_assoc]
          exact er
        · rw [mi_app (R ++ zr z)]
          rfl
      clear k5
      refine ifI fun A B ka kb => ?_
      walk_at "rd"
      refine ⟨by decide, ite_i (fun h1 => ka _ ?_) (fun h1 => kb _ ?_)⟩
      · clear ka kb
        walk_at "rd"
        refine ⟨tyL hp3, by decide, by decide, fun p3 n3 => ⟨_, same_new n3 _ _ hp3, ?_, fin _ ?_ (Same.put (s3.trans (same_new n3)) np)⟩⟩
        · rw [mi_len, List.length_append]
          exact sz (by omega)
        · rw [upd_same, zr_split, if_neg (by omega), ← List.append_assoc, mi_app (R ++ zr1 z)]
          rfl
      · clear ka kb
        walk_at "rd"
        refine fin _ ?_ s3
        rw [hp3, zr_split, if_pos (by omega), List.append_nil]
    · rintro σ H' ⟨R, z, v, rfl, er, hz, hp, sH⟩
      refine k3 _ _ ?_
      walk_at "rd"
      refine q p H' sH np ?_
      rw [hp, ← er, List.drop_of_length_le (by simp)]
      simp [pk]
end
section
variable {P : Program} {w : World} {K : PySem.W.Frag} {mg : Str → Option Value} {base : Heap}
theorem ok__law_unpacked (S : Src K mg "_law_unpacked" s__law_unpacked) (T : Tx P K mg)   : Cal P w K mg base CX0 1 "_law_unpacked" ["_law_row"] spUnpacked := by
  refine S.cal sc__law_unpacked bn__law_unpacked (fun vs H Q E h => ?_) (fun f cdv A outer s H vs Q E hr h => ?_)
  · first | (obtain ⟨rfl, _⟩ := h; rfl) | (obtain ⟨_, rfl, _⟩ := h; rfl) | (obtain ⟨_, _, rfl, _⟩ := h; rfl) | (obtain ⟨_, _, _, rfl, _⟩ := h; rfl) | (obtain ⟨_, _, _, _, rfl, _⟩ := h; rfl) | (obtain ⟨_, _, _, _, _, rfl, _⟩ := h; rfl) | (obtain ⟨_, _, _, _, _, _, rfl, _⟩ := h; rfl)
  · skip
    refine ⟨_, (pss_cons (ps_set (i := 1) sc__law_unpacked.nd rfl (Or.inl rfl) (pe_lst pa_nil))
        (pss_cons (ps_set (i := 2) sc__law_unpacked.nd rfl (Or.inl rfl) pe_int)
        (pss_cons (ps_for PassesOwn.never rfl (pi_range1 rfl T.b_range (Fx.pa_c (Fx.pe_cB Fx.len_L T.b_len (by decide +kernel) (Fx.pa_c (pv 0) pa_nil)) pa_nil)) (pg_name (i := 3) sc__law_unpacked.nd rfl (Or.inl rfl)) (pss_cons (ps_if (pt_cmpR op_ge (pv 2) (Fx.pe_cB Fx.len_L T.b_len (by decide +kernel) (Fx.pa_c (pv 0) pa_nil)) (nomark _)) (pss_one ps_break) pss_nil)
        (pss_one (ps_if (pt_cmpR op_ne (pe_ix Fx.ix_L (pv 0) (pv 2) (fun _ _ => rfl)) pe_int (nomark _)) (pss_cons (ps_expr (pe_bm PySem.F.plainAttrs_list PySem.F.slot_list_append PySem.F.type_list_append mt_append (pv 1) (Fx.pa_c (pe_ix Fx.ix_L (pv 0) (pv 2) (fun _ _ => rfl)) pa_nil)))
        (pss_one (ps_set (i := 2) sc__law_unpacked.nd rfl (Or.inl rfl) (pe_op op_add (pv 2) pe_int)))) (pss_one (ps_if (pt_cmpR op_ge (pe_op op_add (pv 2) pe_int) (Fx.pe_cB Fx.len_L T.b_len (by decide +kernel) (Fx.pa_c (pv 0) pa_nil)) (nomark _)) (pss_one (ps_ret pe_non)) (pss_cons (ps_expr (pe_bm PySem.F.plainAttrs_list PySem.F.slot_list_extend PySem.F.type_list_extend mt_extend (pv 1) (Fx.pa_c (pe_op op_rep (pe_lst (Fx.pa_c pe_int pa_nil)) (pe_op op_add (pe_ix Fx.ix_L (pv 0) (pe_op op_add (pv 2) pe_int) (fun _ _ => rfl)) pe_int)) pa_nil)))
        (pss_one (ps_set (i := 2) sc__law_unpacked.nd rfl (Or.inl rfl) (pe_op op_add (pv 2) pe_int))))))))))
        (pss_one (ps_ret (pv 1)))))), ?_⟩
    obtain ⟨a, row, rfl, ha, hlen, hb, qn, qs⟩ := h
    refine seqI fun K1 k1 => ?_
    walk_at "rd"
    refine ⟨by decide, fun p np => k1 _ _ ?_⟩
    clear k1
    refine seqI fun K2 k2 => ?_
    walk_at "rd"
    refine k2 _ _ ?_
    clear k2
    refine seqI fun K3 k3 => ?_
    have s0 := same_new (o := .lst []) np
    have fin : ∀ (F : List Int) (k : Nat) (v : Option V) (H' : Hp), Spr [] row F k → row.length ≤ k → H' p = some (.lst (mi F)) → Same H H' → K3 [some (.ref a), some (.ref p), some (.int (k : Nat)), v] H' := by
      intro F k v H' S hk hp sH
      refine k3 _ _ ?_
      walk_at "rd"
      exact qs F (S.done hk) p H' sH np hp
    refine ⟨.ref a, rfl, a, _, rfl, s0 _ _ ha, _, rfl, by omega, (by rw [mi_len]; omega), for_range (lo := 0) (n := (((mi row).length : Nat) : Int).toNat) (fun i σ H' => ∃ (F : List Int) (k : Nat) (v : Option V), σ = [some (.ref a), some (.ref p), some (.int (k : Nat)), v] ∧ Spr [] row F k ∧ i ≤ k ∧ F.length ≤ 256 * k ∧ H' p = some (.lst (mi F)) ∧ Same H H') ⟨[], 0, none, rfl, Spr.start [] row, Nat.le_refl _, by simp, upd_same, s0⟩ ?_ ?_⟩
    · rintro i σ H' hi ⟨F, k, v, rfl, S, hik, hF, hp, sH⟩
      have hi : i < row.length := by simpa using hi
      have hkl := S.le
      clear k3
      refine seqI fun K4 k4 => ?_
      refine ifI fun A B ka kb => ?_
      walk_at "rd"
      have ha' := sH _ _ ha
      simp only [ha', Option.some.injEq, HO.lst.injEq, exists_eq_left', mi_len]
      refine ite_i (fun h1 => ka _ ?_) (fun h1 => kb _ ?_)
      · walk_at "rd"
        exact fin F k _ H' S (by omega) hp sH
      clear ka kb
      walk_at "rd"
      refine k4 _ _ ?_
      clear k4
      have hk : k < row.length := by omega
      have gk := List.getElem?_eq_getElem hk
      generalize row[k] = x at gk
      have bx := hb x (List.mem_of_getElem? gk)
      have gk' : (mi row)[k]? = some (.int x) := by rw [List.getElem?_map, gk]; rfl
      refine ifI fun A B ka kb => ?_
      walk_at "rd"
      simp only [ha', Option.some.injEq, HO.lst.injEq, exists_eq_left', atI_get gk']
      simp only [V.int.injEq, true_and]
      refine ite_i (fun h0 => kb _ ?_) (fun h0 => ka _ ?_)
      · clear ka kb A B
        subst h0
        refine ifI fun A B ka kb => ?_
        walk_at "rd"
        simp only [ha', Option.some.injEq, HO.lst.injEq, exists_eq_left', mi_len]
        refine ite_i (fun h1 => ka _ ?_) (fun h1 => kb _ ?_)
        · walk_at "rd"
          exact qn (S.bad gk (by omega)) H' sH
        clear ka kb A B
        have hk1 : k + 1 < row.length := by omega
        have gk1 := List.getElem?_eq_getElem hk1
        generalize row[k + 1] = y at gk1
        have by1 := hb y (List.mem_of_getElem? gk1)
        have gk1' : (mi row)[k + 1]? = some (.int y) := by rw [List.getElem?_map, gk1]; rfl
        have ek : ((k : Int) + 1) = ((k + 1 : Nat) : Int) := by omega
        walk_at "rd"
        refine ⟨tyL hp, by decide, fun p1 n1 => ⟨_, same_new n1 _ _ ha', ?_⟩⟩
        rw [ek]
        refine ⟨_, atI_get gk1', _, rfl, by omega, by omega, ?_, fun p2 n2 => ?_⟩
        · show 1 * _ ≤ _
          exact sz (by omega)
        have ez : (List.replicate (y + 1).toNat [V.int 0]).flatten = mi (List.replicate (y + 1).toNat 0) := by
          unfold mi
          rw [List.map_replicate, List.flatten_replicate_singleton]
        rw [ez] at *
        have s1 := same_new (o := .lst [.int 0]) n1
        have s2 := same_new (o := .lst (mi (List.replicate (y + 1).toNat 0))) n2
        refine ⟨_, s2 _ _ (s1 _ _ hp), ?_, F ++ List.replicate (y + 1).toNat 0, k + 2, by simp, S.run gk gk1, by omega, ?_, ?_, Same.put ((sH.trans s1).trans s2) np⟩
        · rw [mi_len, mi_len, List.length_replicate]
          exact Nat.le_trans (by omega : _ ≤ 6000000) (by decide)
        · rw [List.length_append, List.length_replicate]
          omega
        · rw [mi_app]
      · clear ka kb
        walk_at "rd"
        refine ⟨tyL hp, _, ha', _, atI_get gk', _, hp, ?_, F ++ [x], k + 1, by simp, S.one hb gk h0, by omega, ?_, ?_, Same.put sH np⟩
        · rw [mi_len]
          exact Nat.lt_of_lt_of_le (by omega : _ < 6000000) (by decide)
        · rw [List.length_append]
          show F.length + 1 ≤ _
          omega
        · rw [mi_app]
          rfl
    · rintro σ H' ⟨F, k, v, rfl, S, hik, hF, hp, sH⟩
      have hik : row.length ≤ k := by simpa using hik
      exact fin F k v H' S hik hp sH
end
section
variable {P : Program} {w : World} {K : PySem.W.Frag} {mg : Str → Option Value} {base : Heap}
theorem ok__law_new_row (S : Src K mg "_law_new_row" s__law_new_row) (T : Tx P K mg) (C__law_unpacked : Cal P w K mg base CX0 1 "_law_unpacked" ["_law_row"] spUnpacked) (C__law_packed : Cal P w K mg base CX0 1 "_law_packed" ["_law_row"] spPacked)  : Cal P w K mg base CX0 2 "_law_new_row" ["_law_old", "_law_row"] spNewRow := by
  refine S.cal sc__law_new_row bn__law_new_row (fun vs H Q E h => ?_) (fun f cdv A outer s H vs Q E hr h => ?_)
  · first | (obtain ⟨rfl, _⟩ := h; rfl) | (obtain ⟨_, rfl, _⟩ := h; rfl) | (obtain ⟨_, _, rfl, _⟩ := h; rfl) | (obtain ⟨_, _, _, rfl, _⟩ := h; rfl) | (obtain ⟨_, _, _, _, rfl, _⟩ := h; rfl) | (obtain ⟨_, _, _, _, _, rfl, _⟩ := h; rfl) | (obtain ⟨_, _, _, _, _, _, rfl, _⟩ := h; rfl)
  · skip
    refine ⟨_, (pss_cons (ps_set (i := 2) sc__law_new_row.nd rfl (Or.inr rfl) (Fx.pe_cal C__law_unpacked (hr.mono (by decide)) pass0 (Fx.pa_c (pv 1) pa_nil)))
        (pss_cons (ps_if (PW.pt (pw_or (pt_cmpR op_isNon (pv 2) pe_non (nomark _)) (pw_or1 (pt_cmpR op_gt (Fx.pe_cB Fx.len_L T.b_len (by decide +kernel) (Fx.pa_c (pv 2) pa_nil)) (Fx.pe_cB Fx.len_L T.b_len (by decide +kernel) (Fx.pa_c (pv 0) pa_nil)) (nomark _))))) (pss_one (ps_ret pe_non)) pss_nil)
        (pss_cons (ps_expr (pe_bm PySem.F.plainAttrs_list PySem.F.slot_list_extend PySem.F.type_list_extend mt_extend (pv 2) (Fx.pa_c (pe_op op_rep (pe_lst (Fx.pa_c pe_int pa_nil)) (pe_op op_sub (Fx.pe_cB Fx.len_L T.b_len (by decide +kernel) (Fx.pa_c (pv 0) pa_nil)) (Fx.pe_cB Fx.len_L T.b_len (by decide +kernel) (Fx.pa_c (pv 2) pa_nil)))) pa_nil)))
        (pss_cons (ps_if (pt_cmpR (Fx.ne_LL hr.units) (Fx.pe_cal C__law_packed (hr.mono (by decide)) pass0 (Fx.pa_c (pv 2) pa_nil)) (pv 1) (nomark _)) (pss_one (ps_ret pe_non)) pss_nil)
        (pss_one (ps_ret (pe_lc (own := [("_law_k", 3)]) rfl sc__law_new_row.nd (pi_range1 rfl T.b_range (Fx.pa_c (Fx.pe_cB Fx.len_L T.b_len (by decide +kernel) (Fx.pa_c (pv 0) pa_nil)) pa_nil)) (blkOk_by (N := N__law_new_row) (sc := defScope s__law_new_row) (by decide +kernel)) (fun _ _ _ _ _ => (pg_name (i := 3) sc__law_new_row.nd rfl (Or.inl rfl))) (fun _ _ _ _ _ => pts_nil) (fun _ _ _ _ _ => (pe_op op_mod (Fx.pe_cTy Fx.int_I T.b_int (by decide +kernel) (Fx.pa_c (pe_op op_add (pe_ix Fx.ix_L (pv 0) (pv 3) (fun _ _ => rfl)) (pe_ix Fx.ix_L (pv 2) (pv 3) (fun _ _ => rfl))) pa_nil)) pe_int))))))))), ?_⟩
    obtain ⟨o, r, os, row, rfl, ho, hr0, hlo, hlr, hb, qn, qs⟩ := h
    refine seqI fun K1 k1 => ?_
    walk_at "rd"
    refine ⟨r, row, rfl, hr0, hlr, hb, fun e H1 s1 => k1 _ _ ?_, fun F eF p H1 s1 np hp => k1 _ _ ?_⟩
    · walk_at "rd"
      exact qn (newRow_up_none e) H1 s1
    clear k1
    refine seqI fun K2 k2 => ?_
    walk_at "rd"
    have ho1 := s1 _ _ ho
    simp only [hp, ho1, Option.some.injEq, HO.lst.injEq, exists_eq_left', mi_len]
    refine ite_i (fun h1 => qn ?_ H1 s1) (fun h1 => k2 _ _ ?_)
    · unfold newRow
      rw [eF]
      dsimp only
      rw [if_pos (by omega)]
    clear k2
    have en : newRow os row = if pk 0 (F ++ List.replicate (os.length - F.length) 0) = row then some (addl os (F ++ List.replicate (os.length - F.length) 0)) else none := by
      unfold newRow
      rw [eF]
      dsimp only
      rw [if_neg (by omega)]
    rw [en] at qn qs
    have hl : (F ++ List.replicate (os.length - F.length) 0).length = os.length := by
      rw [List.length_append, List.length_replicate]
      omega
    have ez : (List.replicate ((os.length : Int) - (F.length : Int)).toNat [V.int 0]).flatten = mi (List.replicate (os.length - F.length) 0) := by
      have e1 : ((os.length : Int) - (F.length : Int)).toNat = os.length - F.length := by omega
      unfold mi
      rw [e1, List.map_replicate, List.flatten_replicate_singleton]
    refine seqI fun K3 k3 => ?_
    walk_at "rd"
    refine ⟨tyL hp, by decide, fun p1 n1 => ?_⟩
    have t1 := same_new (o := .lst [.int 0]) n1
    refine ⟨_, t1 _ _ ho1, _, t1 _ _ hp, ?_⟩
    rw [mi_len, mi_len, ez]
    refine ⟨by omega, by omega, ?_, fun p2 n2 => ?_⟩
    · show 1 * _ ≤ _
      exact sz (by omega)
    have t2 := same_new (o := .lst (mi (List.replicate (os.length - F.length) 0))) n2
    refine ⟨_, t2 _ _ (t1 _ _ hp), ?_, k3 _ _ ?_⟩
    · rw [mi_len, mi_len, List.length_replicate]
      exact sz (by omega)
    clear k3
    rw [← mi_app]
    generalize F ++ List.replicate (os.length - F.length) 0 = G at *
    have t3 := Same.put (o := .lst (mi G)) ((s1.trans t1).trans t2) np
    have hG : (upd (upd (upd H1 p1 (.lst [.int 0])) p2 (.lst (mi (List.replicate (os.length - F.length) 0)))) p (.lst (mi G))) p = some (.lst (mi G)) := upd_same
    generalize upd (upd (upd H1 p1 (.lst [.int 0])) p2 (.lst (mi (List.replicate (os.length - F.length) 0)))) p (.lst (mi G)) = H3 at t3 hG
    clear t1 t2 n1 n2
    refine seqI fun K4 k4 => ?_
    walk_at "rd"
    refine ⟨p, G, rfl, hG, by omega, fun p3 H4 t4 n4 h4 => ⟨p3, rfl, _, h4, _, t4 _ _ (t3 _ _ hr0), all_int _, all_int _, ?_⟩⟩
    refine ite_i (fun e => k4 _ _ ?_) (fun e => ?_)
    · have e : pk 0 G = row := map_int_inj.mp e
      rw [if_pos e] at qs
      clear k4 qn
      have ho4 := t4 _ _ (t3 _ _ ho)
      have hG4 := t4 _ _ hG
      refine ⟨.ref o, rfl, o, _, rfl, ho4, _, rfl, by omega, (by rw [mi_len]; omega), fun D nD => ?_⟩
      refine lc_range (lo := 0) (n := (((mi os).length : Nat) : Int).toNat) (fun i H5 => H5 = upd H4 D (.lst (mi ((addl os G).take i)))) rfl ?_ ?_
      · rintro i H5 hi rfl
        have hi : i < os.length := by simpa using hi
        have hi2 : i < G.length := by omega
        refine ⟨rfl, ?_⟩
        walk_at "rd"
        rw [Int.zero_add]
        refine ⟨_, same_new nD _ _ ho4, _, atI_get (mapI_get hi), _, same_new nD _ _ hG4, _, atI_get (mapI_get hi2), _, rfl, _, rfl, by decide, ?_, ?_⟩
        · rw [mi_len, List.length_take, addl_len]
          exact Nat.lt_of_lt_of_le (by omega : _ < 5000) (by decide)
        · rw [upd_upd, take_succ' (addl_get (List.getElem?_eq_getElem hi) (List.getElem?_eq_getElem hi2))]
      · rintro H5 rfl
        refine qs _ rfl D _ ((t3.trans t4).trans (same_new nD)) ?_
        rw [upd_same, List.take_of_length_le]
        rw [addl_len]
        simp
        omega
    · have e : ¬ pk 0 G = row := fun h => e (by rw [h])
      rw [if_neg e] at qn
      exact qn rfl H4 (t3.trans t4)
end
section
variable {P : Program} {w : World} {K : PySem.W.Frag} {mg : Str → Option Value} {base : Heap}
theorem ok__law_is_row (S : Src K mg "_law_is_row" s__law_is_row) (T : Tx P K mg) (C__law_integer : Cal P w K mg base CX0 1 "_law_integer" ["_law_thing"] spInteger)  : Cal P w K mg base CX0 2 "_law_is_row" ["_law_told", "_law_due"] spIsRow := by
  refine S.cal sc__law_is_row bn__law_is_row (fun vs H Q E h => ?_) (fun f cdv A outer s H vs Q E hr h => ?_)
  · first | (obtain ⟨rfl, _⟩ := h; rfl) | (obtain ⟨_, rfl, _⟩ := h; rfl) | (obtain ⟨_, _, rfl, _⟩ := h; rfl) | (obtain ⟨_, _, _, rfl, _⟩ := h; rfl) | (obtain ⟨_, _, _, _, rfl, _⟩ := h; rfl) | (obtain ⟨_, _, _, _, _, rfl, _⟩ := h; rfl) | (obtain ⟨_, _, _, _, _, _, rfl, _⟩ := h; rfl)
  · skip
    refine ⟨_, (pss_cons (ps_if (PW.pt (pw_or (pt_not (pt_val (Fx.pe_cB Fx.is_B T.b_isinstance (by decide +kernel) (Fx.pa_c (pv 0) (Fx.pa_c (pe_bltn (v := .ty "tuple") (by rfl) T.b_tuple (by decide +kernel) rfl) pa_nil))))) (pw_or1 (pt_cmpR op_ne (Fx.pe_cB Fx.len_T T.b_len (by decide +kernel) (Fx.pa_c (pv 0) pa_nil)) (Fx.pe_cB Fx.len_L T.b_len (by decide +kernel) (Fx.pa_c (pv 1) pa_nil)) (nomark _))))) (pss_one (ps_ret pe_bl)) pss_nil)
        (pss_cons (ps_for PassesOwn.never rfl (pi_range1 rfl T.b_range (Fx.pa_c (Fx.pe_cB Fx.len_L T.b_len (by decide +kernel) (Fx.pa_c (pv 1) pa_nil)) pa_nil)) (pg_name (i := 2) sc__law_is_row.nd rfl (Or.inl rfl)) (pss_one (ps_if (PW.pt (pw_or (pt_not (pt_val (Fx.pe_cal C__law_integer (hr.mono (by decide)) pass0 (Fx.pa_c (pe_ix Fx.ix_T (pv 0) (pv 2) (fun _ _ => rfl)) pa_nil)))) (pw_or1 (pt_cmpR op_ne (pe_ix Fx.ix_T (pv 0) (pv 2) (fun _ _ => rfl)) (pe_ix Fx.ix_L (pv 1) (pv 2) (fun _ _ => rfl)) (nomark _))))) (pss_one (ps_ret pe_bl)) pss_nil)))
        (pss_one (ps_ret pe_bl)))), ?_⟩
    obtain ⟨t, d, ns, rfl, ht, hd, hlen, q⟩ := h
    refine seqI fun K1 k1 => ?_
    walk_at "rd"
    simp only [tyv_tup ht, Option.some.injEq, exists_eq_left', kb_tuple_tuple, ht, hd, HO.tup.injEq, HO.lst.injEq, Bool.not_true, Bool.false_eq_true, if_false, if_true]
    refine k1 _ _ ?_
    clear k1
    refine seqI fun K2 k2 => ?_
    refine ⟨.ref d, rfl, d, _, rfl, hd, _, rfl, by omega, (by rw [List.length_map]; omega), for_range (lo := 0) (n := (((mi ns).length : Nat) : Int).toNat) (fun i σ H' => ∃ v, σ = [some (.ref t), some (.ref d), v] ∧ H' = H) ⟨none, rfl, rfl⟩ ?_ ?_⟩
    · rintro i σ H' hi ⟨v, rfl, rfl⟩
      have hi : i < ns.length := by simpa using hi
      clear k2
      walk_at "rd"
      simp only [ht, hd, Option.some.injEq, HO.tup.injEq, HO.lst.injEq, exists_eq_left', Int.zero_add, atI_get (mapI_get hi)]
      refine ⟨_, rfl, true, rfl, ?_⟩
      rw [if_neg (by decide)]
      refine ⟨_, ht, _, atI_get (mapI_get hi), _, hd, _, atI_get (mapI_get hi), rfl, ?_⟩
      rw [if_pos rfl]
    · rintro σ H' ⟨v, rfl, rfl⟩
      refine k2 _ _ ?_
      walk_at "rd"
      exact q
end
section
variable {P : Program} {w : World} {K : PySem.W.Frag} {mg : Str → Option Value} {base : Heap}
theorem ok__law_there_and_back (S : Src K mg "_law_there_and_back" s__law_there_and_back) (T : Tx P K mg) (C__law_differences : Cal P w K mg base CX0 1 "_law_differences" ["_law_old", "_law_new"] spDiff) (C__law_packed : Cal P w K mg base CX0 1 "_law_packed" ["_law_row"] spPacked) (C_squeezed : Cal P w K mg base CX0 1 "squeezed" ["old", "new"] spSqueezed) (C__law_is_row : Cal P w K mg base CX0 2 "_law_is_row" ["_law_told", "_law_due"] spIsRow) (C_spread : Cal P w K mg base CX0 2 "spread" ["old", "row"] spSpread)  : Cal P w K mg base CX0 3 "_law_there_and_back" ["_law_old", "_law_new"] spBack := by
  refine S.cal sc__law_there_and_back bn__law_there_and_back (fun vs H Q E h => ?_) (fun f cdv A outer s H vs Q E hr h => ?_)
  · first | (obtain ⟨rfl, _⟩ := h; rfl) | (obtain ⟨_, rfl, _⟩ := h; rfl) | (obtain ⟨_, _, rfl, _⟩ := h; rfl) | (obtain ⟨_, _, _, rfl, _⟩ := h; rfl) | (obtain ⟨_, _, _, _, rfl, _⟩ := h; rfl) | (obtain ⟨_, _, _, _, _, rfl, _⟩ := h; rfl) | (obtain ⟨_, _, _, _, _, _, rfl, _⟩ := h; rfl)
  · skip
    refine ⟨_, (pss_cons (ps_set (i := 2) sc__law_there_and_back.nd rfl (Or.inl rfl) (Fx.pe_cal C__law_packed (hr.mono (by decide)) pass0 (Fx.pa_c (Fx.pe_cal C__law_differences (hr.mono (by decide)) pass0 (Fx.pa_c (pv 0) (Fx.pa_c (pv 1) pa_nil))) pa_nil)))
        (pss_cons (ps_set (i := 3) sc__law_there_and_back.nd rfl (Or.inl rfl) (Fx.pe_cTy Fx.list_L T.b_list (by decide +kernel) (Fx.pa_c (pv 0) pa_nil)))
        (pss_cons (ps_set (i := 4) sc__law_there_and_back.nd rfl (Or.inl rfl) (Fx.pe_cTy Fx.list_L T.b_list (by decide +kernel) (Fx.pa_c (pv 1) pa_nil)))
        (pss_cons (ps_if (PW.pt (pw_or (pt_not (pt_val (Fx.pe_cal C__law_is_row (hr.mono (by decide)) pass0 (Fx.pa_c (Fx.pe_cal C_squeezed (hr.mono (by decide)) pass0 (Fx.pa_c (pv 3) (Fx.pa_c (pv 4) pa_nil))) (Fx.pa_c (pv 2) pa_nil))))) (pw_or (pt_cmpR (Fx.ne_LL hr.units) (pv 3) (pv 0) (nomark _)) (pw_or1 (pt_cmpR (Fx.ne_LL hr.units) (pv 4) (pv 1) (nomark _)))))) (pss_one (ps_ret pe_bl)) pss_nil)
        (pss_cons (ps_if (pt_not (pt_val (Fx.pe_cal C__law_is_row (hr.mono (by decide)) pass0 (Fx.pa_c (Fx.pe_cal C_squeezed (hr.mono (by decide)) pass0 (Fx.pa_c (Fx.pe_cTy Fx.tup_L T.b_tuple (by decide +kernel) (Fx.pa_c (pv 0) pa_nil)) (Fx.pa_c (Fx.pe_cTy Fx.tup_L T.b_tuple (by decide +kernel) (Fx.pa_c (pv 1) pa_nil)) pa_nil))) (Fx.pa_c (pv 2) pa_nil))))) (pss_one (ps_ret pe_bl)) pss_nil)
        (pss_cons (ps_set (i := 5) sc__law_there_and_back.nd rfl (Or.inl rfl) (Fx.pe_cTy Fx.list_L T.b_list (by decide +kernel) (Fx.pa_c (pv 2) pa_nil)))
        (pss_cons (ps_if (PW.pt (pw_or (pt_not (pt_val (Fx.pe_cal C__law_is_row (hr.mono (by decide)) pass0 (Fx.pa_c (Fx.pe_cal C_spread (hr.mono (by decide)) pass0 (Fx.pa_c (pv 3) (Fx.pa_c (pv 5) pa_nil))) (Fx.pa_c (pv 1) pa_nil))))) (pw_or (pt_cmpR (Fx.ne_LL hr.units) (pv 3) (pv 0) (nomark _)) (pw_or1 (pt_cmpR (Fx.ne_LL hr.units) (pv 5) (pv 2) (nomark _)))))) (pss_one (ps_ret pe_bl)) pss_nil)
        (pss_one (ps_ret (Fx.pe_cal C__law_is_row (hr.mono (by decide)) pass0 (Fx.pa_c (Fx.pe_cal C_spread (hr.mono (by decide)) pass0 (Fx.pa_c (Fx.pe_cTy Fx.tup_L T.b_tuple (by decide +kernel) (Fx.pa_c (pv 0) pa_nil)) (Fx.pa_c (Fx.pe_cTy Fx.tup_L T.b_tuple (by decide +kernel) (Fx.pa_c (pv 2) pa_nil)) pa_nil))) (Fx.pa_c (pv 1) pa_nil)))))))))))), ?_⟩
    obtain ⟨o, n, os, ns, rfl, ho, hn, hl, hlen, hbo, hbn, q⟩ := h
    refine seqI fun K1 k1 => ?_
    walk_at "rd"
    have ld : (diff os ns).length = ns.length := by rw [diff_len]; omega
    have lp := pk_len (diff os ns) 0
    have bp := pk_byt (diff os ns) 0 (diff_byt os ns)
    have nr := newRow_pk hl hbn
    refine ⟨o, n, os, ns, rfl, ho, hn, hl, hlen, fun p1 H1 s1 n1 h1 => ⟨p1, _, rfl, h1, by omega, fun p2 H2 s2 n2 h2 => k1 _ _ ?_⟩⟩
    clear k1 h1 n1 n2
    generalize edue : pk 0 (diff os ns) = due at *
    have sA := s1.trans s2
    clear s1 s2
    refine seqI fun K2 k2 => ?_
    walk_at "rd"
    refine ⟨_, sA _ _ ho, fun p3 n3 => k2 _ _ ?_⟩
    clear k2
    have sB := same_new (o := .lst (mi os)) n3
    have h3 : (upd H2 p3 (.lst (mi os))) p3 = some (.lst (mi os)) := upd_same
    generalize upd H2 p3 (.lst (mi os)) = H3 at sB h3
    refine seqI fun K2 k2 => ?_
    walk_at "rd"
    refine ⟨_, sB _ _ (sA _ _ hn), fun p4 n4 => k2 _ _ ?_⟩
    clear k2
    have sC := same_new (o := .lst (mi ns)) n4
    have h4 : (upd H3 p4 (.lst (mi ns))) p4 = some (.lst (mi ns)) := upd_same
    generalize upd H3 p4 (.lst (mi ns)) = H4 at sC h4
    replace h3 := sC _ _ h3
    replace h2 := sC _ _ (sB _ _ h2)
    replace sA := (sA.trans sB).trans sC
    clear sB sC
    refine seqI fun K2 k2 => ?_
    walk_at "rd"
    refine ⟨p3, p4, os, ns, rfl, .inl h3, .inl h4, hl, hlen, fun p5 H5 s5 h5 => ?_⟩
    have yes : ∀ {A B : Prop} {l : List V}, A → (if l = l then A else B) := fun h => by rw [if_pos rfl]; exact h
    rw [edue] at h5
    refine ⟨p5, p2, due, rfl, h5, s5 _ _ h2, by omega, true, rfl, ?_⟩
    rw [if_neg (by decide)]
    refine ⟨_, s5 _ _ h3, _, s5 _ _ (sA _ _ ho), all_int _, all_int _, yes ⟨_, s5 _ _ h4, _, s5 _ _ (sA _ _ hn), all_int _, all_int _, yes (k2 _ _ ?_)⟩⟩
    clear k2 h5
    replace h3 := s5 _ _ h3
    replace h4 := s5 _ _ h4
    replace h2 := s5 _ _ h2
    replace sA := sA.trans s5
    clear s5
    refine seqI fun K2 k2 => ?_
    walk_at "rd"
    refine ⟨_, sA _ _ ho, fun p6 n6 => ?_⟩
    have t6 := same_new (o := .tup (mi os)) n6
    refine ⟨_, t6 _ _ (sA _ _ hn), fun p7 n7 => ?_⟩
    have t7 := same_new (o := .tup (mi ns)) n7
    refine ⟨p6, p7, os, ns, rfl, .inr (t7 _ _ upd_same), .inr upd_same, hl, hlen, fun p8 H8 s8 h8 => ⟨p8, p2, due, rfl, edue ▸ h8, s8 _ _ (t7 _ _ (t6 _ _ h2)), by omega, true, rfl, ?_⟩⟩
    rw [if_neg (by decide)]
    refine k2 _ _ ?_
    clear k2 h8
    have s9 := (t6.trans t7).trans s8
    replace h3 := s9 _ _ h3
    replace h4 := s9 _ _ h4
    replace h2 := s9 _ _ h2
    replace sA := sA.trans s9
    clear s9 s8 t7 t6 n6 n7
    refine seqI fun K2 k2 => ?_
    walk_at "rd"
    refine ⟨_, h2, fun pA nA => k2 _ _ ?_⟩
    clear k2
    have tA := same_new (o := .lst (mi due)) nA
    have hA : (upd H8 pA (.lst (mi due))) pA = some (.lst (mi due)) := upd_same
    generalize upd H8 pA (.lst (mi due)) = HA at tA hA
    replace h3 := tA _ _ h3
    replace h2 := tA _ _ h2
    replace sA := sA.trans tA
    clear tA nA
    refine seqI fun K2 k2 => ?_
    walk_at "rd"
    refine ⟨p3, pA, os, due, rfl, .inl h3, .inl hA, by omega, by omega, hbo, bp, fun e => (by rw [nr] at e; cases e), fun ys e pB HB sB hB => ?_⟩
    rw [nr] at e
    cases e
    refine ⟨pB, n, ns, rfl, hB, sB _ _ (sA _ _ hn), by omega, true, rfl, ?_⟩
    rw [if_neg (by decide)]
    refine ⟨_, sB _ _ h3, _, sB _ _ (sA _ _ ho), all_int _, all_int _, yes ⟨_, sB _ _ hA, _, sB _ _ h2, all_int _, all_int _, yes (k2 _ _ ?_)⟩⟩
    clear k2
    replace h2 := sB _ _ h2
    replace sA := sA.trans sB
    clear sB hB hA h3
    walk_at "rd"
    refine ⟨_, sA _ _ ho, fun p6 n6 => ?_⟩
    have t6 := same_new (o := .tup (mi os)) n6
    refine ⟨_, t6 _ _ h2, fun p7 n7 => ?_⟩
    have t7 := same_new (o := .tup (mi due)) n7
    refine ⟨p6, p7, os, due, rfl, .inr (t7 _ _ upd_same), .inr upd_same, by omega, by omega, hbo, bp, fun e => (by rw [nr] at e; cases e), fun ys e p8 H8 s8 h8 => ?_⟩
    rw [nr] at e
    cases e
    have s9 := (t6.trans t7).trans s8
    exact ⟨p8, n, ns, rfl, h8, s9 _ _ (sA _ _ hn), by omega, q _ (sA.trans s9)⟩
end
section
variable {P : Program} {w : World} {K : PySem.W.Frag} {mg : Str → Option Value} {base : Heap}
theorem ok__law_parted (S : Src K mg "_law_parted" s__law_parted) (T : Tx P K mg) (C__law_pick : Cal P w K mg base CX0 1 "_law_pick" ["_law_bag_here", "_law_many"] spPick)  : Cal P w K mg base CX0 2 "_law_parted" ["_law_bag_here", "_law_row"] spParted := by
  refine S.cal sc__law_parted bn__law_parted (fun vs H Q E h => ?_) (fun f cdv A outer s H vs Q E hr h => ?_)
  · first | (obtain ⟨rfl, _⟩ := h; rfl) | (obtain ⟨_, rfl, _⟩ := h; rfl) | (obtain ⟨_, _, rfl, _⟩ := h; rfl) | (obtain ⟨_, _, _, rfl, _⟩ := h; rfl) | (obtain ⟨_, _, _, _, rfl, _⟩ := h; rfl) | (obtain ⟨_, _, _, _, _, rfl, _⟩ := h; rfl) | (obtain ⟨_, _, _, _, _, _, rfl, _⟩ := h; rfl)
  · skip
    refine ⟨_, (pss_cons (ps_set (i := 2) sc__law_parted.nd rfl (Or.inl rfl) (Fx.pe_cal C__law_pick (hr.mono (by decide)) pass0 (Fx.pa_c (pv 0) (Fx.pa_c (pe_op op_add (Fx.pe_cB Fx.len_L T.b_len (by decide +kernel) (Fx.pa_c (pv 1) pa_nil)) pe_int) pa_nil))))
        (pss_cons (ps_for PassesOwn.never rfl (pi_range2 rfl T.b_range (Fx.pa_c (pv 2) (Fx.pa_c (pe_op op_sub (Fx.pe_cB Fx.len_L T.b_len (by decide +kernel) (Fx.pa_c (pv 1) pa_nil)) pe_int) pa_nil))) (pg_name (i := 3) sc__law_parted.nd rfl (Or.inl rfl)) (pss_one (ps_if (PW.pt (pw_and (pt_cmpR op_eq (pe_ix Fx.ix_L (pv 1) (pv 3) (fun _ _ => rfl)) pe_int (nomark _)) (pw_and1 (pt_cmpR op_gt (pe_ix Fx.ix_L (pv 1) (pe_op op_add (pv 3) pe_int) (fun _ _ => rfl)) pe_int (nomark _))))) (pss_cons (ps_set (i := 4) sc__law_parted.nd rfl (Or.inl rfl) (Fx.pe_cal C__law_pick (hr.mono (by decide)) pass0 (Fx.pa_c (pv 0) (Fx.pa_c (pe_ix Fx.ix_L (pv 1) (pe_op op_add (pv 3) pe_int) (fun _ _ => rfl)) pa_nil))))
        (pss_one (ps_ret (pe_op op_cat (pe_op op_cat (pe_slice Fx.sl_L (pv 1) po_none (po_some (pv 3))) (pe_lst (Fx.pa_c pe_int (Fx.pa_c (pv 4) (Fx.pa_c pe_int (Fx.pa_c (pe_op op_sub (pe_op op_sub (pe_ix Fx.ix_L (pv 1) (pe_op op_add (pv 3) pe_int) (fun _ _ => rfl)) (pv 4)) pe_int) pa_nil)))))) (pe_slice Fx.sl_L (pv 1) (po_some (pe_op op_add (pv 3) pe_int)) po_none))))) pss_nil)))
        (pss_one (ps_ret (pe_op op_cat (pv 1) (pe_lst (Fx.pa_c pe_int (Fx.pa_c (Fx.pe_cal C__law_pick (hr.mono (by decide)) pass0 (Fx.pa_c (pv 0) (Fx.pa_c pe_int pa_nil))) pa_nil)))))))), ?_⟩
    obtain ⟨b, a, row, rfl, hB, ha, hlen, hb, q⟩ := h
    refine seqI fun K1 k1 => ?_
    walk_at "rd"
    simp only [ha, Option.some.injEq, HO.lst.injEq, exists_eq_left', mi_len]
    refine ⟨b, _, rfl, hB, by omega, by omega, fun pl H1 pl0 pl1 kp1 => k1 _ _ ?_⟩
    clear k1
    refine seqI fun K2 k2 => ?_
    have ha1 := kp1.lst hB ha
    refine ⟨.int pl, rfl, .ref a, rfl, a, _, rfl, ha1, _, _, rfl, rfl, ?_⟩
    refine ⟨_, _, rfl, ⟨by omega, by omega, (by rw [mi_len]; omega), (by rw [mi_len]; omega)⟩, for_range (lo := pl) (n := ((((mi row).length : Nat) : Int) - 1 - pl).toNat) (fun i σ H' => ∃ v, σ = [some (.ref b), some (.ref a), some (.int pl), v, none] ∧ H' = H1) ⟨none, rfl, rfl⟩ ?_ ?_⟩
    · rintro i σ H' hi ⟨v, rfl, rfl⟩
      have hi : pl.toNat + i + 1 < row.length := by
        rw [mi_len] at hi
        omega
      obtain ⟨k, ek⟩ : ∃ k : Nat, pl.toNat + i = k := ⟨_, rfl⟩
      have ek1 : pl + (i : Int) = (k : Nat) := by omega
      have ek2 : ((k : Nat) : Int) + 1 = ((k + 1 : Nat) : Int) := by omega
      have hk : k < row.length := by omega
      have hk1 : k + 1 < row.length := by omega
      have gk := List.getElem?_eq_getElem hk
      have gk1 := List.getElem?_eq_getElem hk1
      generalize row[k] = x at gk
      generalize row[k + 1] = y at gk1
      have b1 := hb y (List.mem_of_getElem? gk1)
      have gk' : (mi row)[k]? = some (.int x) := by rw [List.getElem?_map, gk]; rfl
      have gk1' : (mi row)[k + 1]? = some (.int y) := by rw [List.getElem?_map, gk1]; rfl
      clear k2
      refine ifI fun A B ka kb => ?_
      rw [ek1] at *
      walk_at "rd"
      have no : B H' := by
        refine kb _ ?_
        walk_at "rd"
      refine ⟨_, ha1, _, atI_get gk', rfl, ite_i (fun h0 => ⟨_, ha1, ?_⟩) (fun _ => no)⟩
      rw [ek2]
      refine ⟨_, atI_get gk1', y, rfl, ite_i (fun h1 => ka _ ?_) (fun _ => no)⟩
      clear ka kb no
      refine seqI fun K3 k3 => ?_
      walk_at "rd"
      refine ⟨_, ha1, ?_⟩
      rw [ek2]
      refine ⟨_, atI_get gk1', b, y, rfl, kp1.bag, h1, by omega, fun l H2 l0 l1 kp2 => k3 _ _ ?_⟩
      clear k3
      walk_at "rd"
      have ha2 := kp2.lst kp1.bag ha1
      refine ⟨_, ha2, fun p1 n1 => ?_⟩
      rw [cutV_hi, ek2] at *
      have et : (mi row).take k = mi (row.take k) := by unfold mi; rw [List.map_take]
      rw [et] at *
      have s1 := same_new (o := .lst (mi (row.take k))) n1
      refine ⟨_, s1 _ _ ha2, _, atI_get gk1', _, rfl, by decide, fun p2 n2 => ?_⟩
      have s2 := same_new (o := .lst [.int 0, .int l, .int 0, .int (y - l - 1)]) n2
      refine ⟨_, s2 _ _ upd_same, (by rw [mi_len, List.length_take]; exact sz (by omega)), fun p3 n3 => ?_⟩
      have e3 : mi (row.take k) ++ [V.int 0, V.int l, V.int 0, V.int (y - l - 1)] = mi (row.take k ++ [0, l, 0, y - l - 1]) := by rw [mi_app]; rfl
      rw [e3] at *
      have s3 := same_new (o := .lst (mi (row.take k ++ [0, l, 0, y - l - 1]))) n3
      refine ⟨_, s3 _ _ (s2 _ _ (s1 _ _ ha2)), fun p4 n4 => ?_⟩
      have e4 : ((k : Nat) : Int) + 2 = ((k + 2 : Nat) : Int) := by omega
      have e5 : cutV (mi row) (some (((k + 2 : Nat) : Int))) none = mi (row.drop (k + 2)) := by rw [cutV_lo]; unfold mi; rw [List.map_drop]
      rw [e4, e5] at *
      have s4 := same_new (o := .lst (mi (row.drop (k + 2)))) n4
      have lt : (row.take k ++ [0, l, 0, y - l - 1]).length + (row.drop (k + 2)).length = row.length + 2 := by
        rw [List.length_append, List.length_take, List.length_drop]
        show min k row.length + 4 + _ = _
        omega
      refine ⟨_, s4 _ _ upd_same, (by rw [mi_len, mi_len, lt]; exact sz (by omega)), fun p5 n5 => ?_⟩
      rw [← mi_app]
      refine q p5 _ _ (((((kp1.trans kp2).then s1).then s2).then s3).then (s4.trans (same_new n5))) ?_ upd_same (by rw [List.length_append, lt]; exact Nat.le_refl _) ?_
      · exact kp1.free (kp2.free (s1.free (s2.free (s3.free (s4.free n5)))))
      · intro x hx
        rcases List.mem_append.mp hx with hx | hx
        · rcases List.mem_append.mp hx with hx | hx
          · exact hb x (List.mem_of_mem_take hx)
          · simp only [List.mem_cons, List.not_mem_nil, or_false] at hx
            omega
        · exact hb x (List.mem_of_mem_drop hx)
    · rintro σ H' ⟨v, rfl, rfl⟩
      refine k2 _ _ ?_
      walk_at "rd"
      refine ⟨b, 3, rfl, kp1.bag, by decide, by decide, fun z H2 z0 z1 kp2 => ⟨by decide, fun p1 n1 => ?_⟩⟩
      have ha2 := kp2.lst kp1.bag ha1
      have s1 := same_new (o := .lst [.int 0, .int z]) n1
      refine ⟨_, s1 _ _ ha2, (by rw [mi_len]; exact sz (by omega)), fun p2 n2 => ?_⟩
      have e3 : mi row ++ [V.int 0, V.int z] = mi (row ++ [0, z]) := by rw [mi_app]; rfl
      rw [e3]
      refine q p2 _ _ (((kp1.trans kp2).then s1).then (same_new n2)) (kp1.free (kp2.free (s1.free n2))) upd_same (by rw [List.length_append]; exact Nat.le_refl _) ?_
      intro x hx
      rcases List.mem_append.mp hx with hx | hx
      · exact hb x hx
      · simp only [List.mem_cons, List.not_mem_nil, or_false] at hx
        omega
end
section
variable {P : Program} {w : World} {K : PySem.W.Frag} {mg : Str → Option Value} {base : Heap}
theorem ok__law_changed (S : Src K mg "_law_changed" s__law_changed) (T : Tx P K mg) (C__law_pick : Cal P w K mg base CX0 1 "_law_pick" ["_law_bag_here", "_law_many"] spPick) (C__law_choice : Cal P w K mg base CX0 2 "_law_choice" ["_law_bag_here", "_law_things"] spChoiceL) (C__law_parted : Cal P w K mg base CX0 2 "_law_parted" ["_law_bag_here", "_law_row"] spParted)  : Cal P w K mg base CX0 3 "_law_changed" ["_law_bag_here", "_law_told"] spChanged := by
  refine S.cal sc__law_changed bn__law_changed (fun vs H Q E h => ?_) (fun f cdv A outer s H vs Q E hr h => ?_)
  · first | (obtain ⟨rfl, _⟩ := h; rfl) | (obtain ⟨_, rfl, _⟩ := h; rfl) | (obtain ⟨_, _, rfl, _⟩ := h; rfl) | (obtain ⟨_, _, _, rfl, _⟩ := h; rfl) | (obtain ⟨_, _, _, _, rfl, _⟩ := h; rfl) | (obtain ⟨_, _, _, _, _, rfl, _⟩ := h; rfl) | (obtain ⟨_, _, _, _, _, _, rfl, _⟩ := h; rfl)
  · skip
    refine ⟨_, (pss_cons (ps_set (i := 2) sc__law_changed.nd rfl (Or.inl rfl) (Fx.pe_cTy Fx.list_L T.b_list (by decide +kernel) (Fx.pa_c (pv 1) pa_nil)))
        (pss_cons (ps_for PassesOwn.never rfl (pi_range1 rfl T.b_range (Fx.pa_c (pe_op op_add pe_int (Fx.pe_cal C__law_pick (hr.mono (by decide)) pass0 (Fx.pa_c (pv 0) (Fx.pa_c pe_int pa_nil)))) pa_nil)) (pg_name (i := 3) sc__law_changed.nd rfl (Or.inl rfl)) (pss_cons (ps_set (i := 4) sc__law_changed.nd rfl (Or.inl rfl) (Fx.pe_cal C__law_pick (hr.mono (by decide)) pass0 (Fx.pa_c (pv 0) (Fx.pa_c pe_int pa_nil))))
        (pss_cons (ps_set (i := 5) sc__law_changed.nd rfl (Or.inl rfl) (Fx.pe_cal C__law_pick (hr.mono (by decide)) pass0 (Fx.pa_c (pv 0) (Fx.pa_c (pe_op op_add (Fx.pe_cB Fx.len_L T.b_len (by decide +kernel) (Fx.pa_c (pv 2) pa_nil)) pe_int) pa_nil))))
        (pss_one (ps_if (pt_cmpR op_eq (pv 4) pe_int (nomark _)) (pss_one (ps_expr (pe_bm PySem.F.plainAttrs_list PySem.F.slot_list_insert PySem.F.type_list_insert Fx.mt_ins (pv 2) (Fx.pa_c (pv 5) (Fx.pa_c (Fx.pe_cal C__law_pick (hr.mono (by decide)) pass0 (Fx.pa_c (pv 0) (Fx.pa_c pe_int pa_nil))) pa_nil))))) (pss_one (ps_if (pt_cmpR op_eq (pv 4) pe_int (nomark _)) (pss_one (ps_set (i := 2) sc__law_changed.nd rfl (Or.inl rfl) (pe_op op_cat (pe_op op_cat (pe_slice Fx.sl_L (pv 2) po_none (po_some (pv 5))) (pe_lst (Fx.pa_c pe_int (Fx.pa_c (Fx.pe_cal C__law_choice (hr.mono (by decide)) pass0 (Fx.pa_c (pv 0) (Fx.pa_c (pe_lst (Fx.pa_c pe_int (Fx.pa_c pe_int (Fx.pa_c pe_int (Fx.pa_c pe_int (Fx.pa_c pe_int pa_nil)))))) pa_nil))) pa_nil)))) (pe_slice Fx.sl_L (pv 2) (po_some (pv 5)) po_none)))) (pss_one (ps_if (pt_cmpR op_eq (pv 4) pe_int (nomark _)) (pss_one (ps_set (i := 2) sc__law_changed.nd rfl (Or.inl rfl) (pe_slice Fx.sl_L (pv 2) po_none (po_some (pv 5))))) (pss_one (ps_if (pt_cmpR op_eq (pv 4) pe_int (nomark _)) (pss_one (ps_set (i := 2) sc__law_changed.nd rfl (Or.inl rfl) (Fx.pe_cal C__law_parted (hr.mono (by decide)) pass0 (Fx.pa_c (pv 0) (Fx.pa_c (pv 2) pa_nil))))) (pss_one (ps_if (pt_cmpR op_eq (pv 4) pe_int (nomark _)) (pss_one (ps_set (i := 2) sc__law_changed.nd rfl (Or.inl rfl) (pe_op op_cat (pv 2) (Fx.pe_cal C__law_choice (hr.mono (by decide)) pass0 (Fx.pa_c (pv 0) (Fx.pa_c (pe_lst (Fx.pa_c (pe_lst (Fx.pa_c pe_int pa_nil)) (Fx.pa_c (pe_lst (Fx.pa_c pe_int (Fx.pa_c pe_int pa_nil))) (Fx.pa_c (pe_lst (Fx.pa_c pe_int (Fx.pa_c pe_int pa_nil))) (Fx.pa_c (pe_lst (Fx.pa_c pe_int pa_nil)) (Fx.pa_c (pe_lst (Fx.pa_c pe_int (Fx.pa_c pe_int (Fx.pa_c pe_int pa_nil)))) (Fx.pa_c (pe_lst (Fx.pa_c pe_int (Fx.pa_c pe_int (Fx.pa_c pe_int pa_nil)))) pa_nil))))))) pa_nil)))))) (pss_one (ps_if (pt_cmpR op_lt (pv 5) (Fx.pe_cB Fx.len_L T.b_len (by decide +kernel) (Fx.pa_c (pv 2) pa_nil)) (nomark _)) (pss_one (ps_if (pt_cmpR op_eq (pv 4) pe_int (nomark _)) (pss_one (ps_expr (pe_bm PySem.F.plainAttrs_list PySem.F.slot_list_pop PySem.F.type_list_pop mt_popAt (pv 2) (Fx.pa_c (pv 5) pa_nil)))) (pss_one (ps_if (pt_cmpR op_eq (pv 4) pe_int (nomark _)) (pss_one (ps_asg (Fx.pe_cal C__law_pick (hr.mono (by decide)) pass0 (Fx.pa_c (pv 0) (Fx.pa_c pe_int pa_nil))) (pg_sub (pv 2) (pv 5) set_list))) (pss_one (ps_asg (Fx.pe_cal C__law_choice (hr.mono (by decide)) pass0 (Fx.pa_c (pv 0) (Fx.pa_c (pe_lst (Fx.pa_c pe_int (Fx.pa_c pe_int (Fx.pa_c pe_int pa_nil)))) pa_nil))) (pg_sub (pv 2) (pv 5) set_list))))))) pss_nil)))))))))))))))
        (pss_one (ps_ret (pv 2))))), ?_⟩
    obtain ⟨b, a, row, rfl, hB, ha, hlen, hb, q⟩ := h
    refine seqI fun K1 k1 => ?_
    walk_at "rd"
    refine ⟨_, ha, fun p0 n0 => k1 _ _ ?_⟩
    clear k1
    refine seqI fun K2 k2 => ?_
    have kp0 := Kp.same hB (same_new (o := .lst (mi row)) n0)
    have hp0 : (upd H p0 (.lst (mi row))) p0 = some (.lst (mi row)) := upd_same
    generalize upd H p0 (.lst (mi row)) = H0 at kp0 hp0
    refine ⟨.ref b, rfl, b, 3, rfl, kp0.bag, by decide, by decide, fun c H1 c0 c1 kp1 => ?_⟩
    refine ⟨1, c, rfl, rfl, 1 + c, rfl, by omega, by omega, for_range (lo := 0) (n := (1 + c).toNat) (fun i σ H' => ∃ (r : Addr) (rs : List Int) (v3 v4 v5 : Option V), σ = [some (.ref b), some (.ref a), some (.ref r), v3, v4, v5] ∧ H r = none ∧ H' r = some (.lst (mi rs)) ∧ Kp b H H' ∧ Byt rs ∧ rs.length ≤ row.length + 3 * i) ⟨p0, row, none, none, none, rfl, n0, kp1.lst kp0.bag hp0, kp0.trans kp1, hb, Nat.le_refl _⟩ ?_ ?_⟩
    · rintro i σ H2 hi ⟨r, rs, v3, v4, v5, rfl, nr, hr2, kp2, brs, lrs⟩
      clear k2 kp0 kp1 hp0
      have l1 : rs.length ≤ 10010 := by omega
      refine seqI fun K3 k3 => ?_
      walk_at "rd"
      refine ⟨b, 8, rfl, kp2.bag, by decide, by decide, fun w0 H3 w1 w2 kp3 => k3 _ _ ?_⟩
      clear k3
      refine seqI fun K3 k3 => ?_
      walk_at "rd"
      have hr3 := kp3.lst kp2.bag hr2
      refine ⟨_, hr3, ?_⟩
      rw [mi_len]
      refine ⟨b, _, rfl, kp3.bag, by omega, by omega, fun pl H4 pl0 pl1 kp4 => k3 _ _ ?_⟩
      clear k3
      have kp := (kp2.trans kp3).trans kp4
      have hr4 := kp4.lst kp3.bag hr3
      clear kp2 kp3 kp4 hr2 hr3
      obtain ⟨pn, rfl⟩ : ∃ pn : Nat, pl = (pn : Int) := ⟨pl.toNat, by omega⟩
      have hpn : pn ≤ rs.length := by omega
      refine ifI fun A B ka kb => ?_
      walk_at "rd"
      refine ite_i (fun h0 => ka _ ?_) (fun h0 => kb _ ?_)
      · clear ka kb
        walk_at "rd"
        refine ⟨tyL hr4, b, 256, rfl, kp.bag, by decide, by decide, fun y H5 y0 y1 kp5 => ⟨_, kp5.lst kp.bag hr4, (by rw [mi_len]; exact Nat.lt_of_lt_of_le (by omega : _ < 20000) (by decide)), by omega, by omega, nr, rs.take pn ++ [y] ++ rs.drop pn, ?_, Kp.put hB (kp.trans kp5) nr, (brs.take pn |>.app (fun x hx => (by rw [List.mem_singleton.mp hx]; omega))).app (brs.drop pn), ?_⟩⟩
        · rw [mi_app, mi_app, ← mi_take, ← mi_drop]
          rfl
        · rw [List.length_append, List.length_append, List.length_take, List.length_drop]
          show min pn rs.length + 1 + _ ≤ _
          omega
      clear ka kb A B
      refine ifI fun A B ka kb => ?_
      walk_at "rd"
      refine ite_i (fun h1 => ka _ ?_) (fun h1 => kb _ ?_)
      · clear ka kb
        walk_at "rd"
        refine ⟨_, hr4, fun p1 n1 => ⟨by decide, fun p2 n2 => ?_⟩⟩
        rw [cutV_hi, mi_take] at *
        have s1 := same_new (o := .lst (mi (rs.take pn))) n1
        have s2 := same_new (o := .lst [.int 0, .int 1, .int 2, .int 254, .int 255]) n2
        have kp6 := (kp.then s1).then s2
        refine ⟨b, p2, _, rfl, kp6.bag, upd_same, (show 0 < 5 by decide), (show 5 ≤ 100000 by decide), fun v H5 hv kp5 => ?_⟩
        obtain ⟨y, rfl, y0, y1⟩ : ∃ y : Int, v = .int y ∧ 0 ≤ y ∧ y ≤ 255 := by
          simp only [List.mem_cons, List.not_mem_nil, or_false] at hv
          rcases hv with rfl | rfl | rfl | rfl | rfl
          · exact ⟨0, rfl, by decide, by decide⟩
          · exact ⟨1, rfl, by decide, by decide⟩
          · exact ⟨2, rfl, by decide, by decide⟩
          · exact ⟨254, rfl, by decide, by decide⟩
          · exact ⟨255, rfl, by decide, by decide⟩
        refine ⟨by decide, fun p3 n3 => ?_⟩
        have s3 := same_new (o := .lst [.int 0, .int y]) n3
        have h1' := kp5.lst kp6.bag (s2 _ _ (upd_same (H := H4) (a := p1) (o := .lst (mi (rs.take pn)))))
        refine ⟨_, s3 _ _ h1', (by rw [mi_len, List.length_take]; exact sz (by omega)), fun p4 n4 => ?_⟩
        have s4 := same_new (o := .lst (mi (rs.take pn) ++ [.int 0, .int y])) n4
        have hr5 := kp5.lst kp6.bag (s2 _ _ (s1 _ _ hr4))
        refine ⟨_, s4 _ _ (s3 _ _ hr5), fun p5 n5 => ?_⟩
        have s5 := same_new (o := .lst (cutV (mi rs) (some (pn : Int)) none)) n5
        have l2 := cutV_length (mi rs) (some (pn : Int)) none
        rw [mi_len] at l2
        refine ⟨_, s5 _ _ upd_same, (by rw [List.length_append, mi_len, List.length_take]; show min pn rs.length + 2 + _ ≤ _; exact sz (by omega)), fun p6 n6 => ⟨?_, rs.take pn ++ [0, y] ++ rs.drop pn, ?_, (((kp6.trans kp5).then s3).then (s4.trans s5)).then (same_new n6), (brs.take pn |>.app ?_).app (brs.drop pn), ?_⟩⟩
        · exact kp6.free (kp5.free (s3.free (s4.free (s5.free n6))))
        · rw [mi_app, mi_app, cutV_lo, mi_drop]
          rfl
        · intro x hx
          simp only [List.mem_cons, List.not_mem_nil, or_false] at hx
          omega
        · rw [List.length_append, List.length_append, List.length_take, List.length_drop]
          show min pn rs.length + 2 + _ ≤ _
          omega
      clear ka kb A B
      refine ifI fun A B ka kb => ?_
      walk_at "rd"
      refine ite_i (fun h2 => ka _ ?_) (fun h2 => kb _ ?_)
      · clear ka kb
        walk_at "rd"
        refine ⟨_, hr4, fun p1 n1 => ?_⟩
        rw [cutV_hi, mi_take]
        refine ⟨kp.free n1, _, rfl, kp.then (same_new n1), brs.take pn, ?_⟩
        rw [List.length_take]
        omega
      clear ka kb A B
      refine ifI fun A B ka kb => ?_
      walk_at "rd"
      refine ite_i (fun h3 => ka _ ?_) (fun h3 => kb _ ?_)
      · clear ka kb
        walk_at "rd"
        exact ⟨b, r, rs, rfl, kp.bag, hr4, by omega, brs, fun p1 rs1 H5 kp5 n5 h5 l5 b5 => ⟨p1, rfl, kp.free n5, rs1, h5, kp.trans kp5, b5, by omega⟩⟩
      clear ka kb A B
      refine ifI fun A B ka kb => ?_
      walk_at "rd"
      refine ite_i (fun h4 => ka _ ?_) (fun h4 => kb _ ?_)
      · clear ka kb
        refine ⟨.ref r, rfl, .ref b, rfl, ?_⟩
        walk_at "rd"
        refine ⟨by decide, fun q1 m1 => ⟨by decide, fun q2 m2 => ⟨by decide, fun q3 m3 => ⟨by decide, fun q4 m4 => ⟨by decide, fun q5 m5 => ⟨by decide, fun q6 m6 => ⟨by decide, fun q7 m7 => ?_⟩⟩⟩⟩⟩⟩⟩
        have t1 := same_new (o := .lst [.int 0]) m1
        have t2 := same_new (o := .lst [.int 0, .int 0]) m2
        have t3 := same_new (o := .lst [.int 0, .int 255]) m3
        have t4 := same_new (o := .lst [.int 1]) m4
        have t5 := same_new (o := .lst [.int 255, .int 0, .int 3]) m5
        have t6 := same_new (o := .lst [.int 0, .int 7, .int 200]) m6
        have t7 := same_new (o := .lst [.ref q1, .ref q2, .ref q3, .ref q4, .ref q5, .ref q6]) m7
        have kp6 := ((((((kp.then t1).then t2).then t3).then t4).then t5).then t6).then t7
        have tA := (((((t1.trans t2).trans t3).trans t4).trans t5).trans t6).trans t7
        have g1 := t7 _ _ (t6 _ _ (t5 _ _ (t4 _ _ (t3 _ _ (t2 _ _ (upd_same (H := H4) (a := q1) (o := .lst [.int 0])))))))
        have g2 := t7 _ _ (t6 _ _ (t5 _ _ (t4 _ _ (t3 _ _ (upd_same (H := upd H4 q1 (.lst [.int 0])) (a := q2) (o := .lst [.int 0, .int 0]))))))
        have g3 := t7 _ _ (t6 _ _ (t5 _ _ (t4 _ _ (upd_same (H := upd (upd H4 q1 (.lst [.int 0])) q2 (.lst [.int 0, .int 0])) (a := q3) (o := .lst [.int 0, .int 255])))))
        have g4 := t7 _ _ (t6 _ _ (t5 _ _ (upd_same (H := upd (upd (upd H4 q1 (.lst [.int 0])) q2 (.lst [.int 0, .int 0])) q3 (.lst [.int 0, .int 255])) (a := q4) (o := .lst [.int 1]))))
        have g5 := t7 _ _ (t6 _ _ (upd_same (H := upd (upd (upd (upd H4 q1 (.lst [.int 0])) q2 (.lst [.int 0, .int 0])) q3 (.lst [.int 0, .int 255])) q4 (.lst [.int 1])) (a := q5) (o := .lst [.int 255, .int 0, .int 3])))
        have g6 := t7 _ _ (upd_same (H := upd (upd (upd (upd (upd H4 q1 (.lst [.int 0])) q2 (.lst [.int 0, .int 0])) q3 (.lst [.int 0, .int 255])) q4 (.lst [.int 1])) q5 (.lst [.int 255, .int 0, .int 3])) (a := q6) (o := .lst [.int 0, .int 7, .int 200]))
        refine ⟨b, q7, _, rfl, kp6.bag, upd_same, (show 0 < 6 by decide), (show 6 ≤ 100000 by decide), fun v H5 hv kp5 => ?_⟩
        obtain ⟨x, zs, rfl, hx, lz, bz⟩ : ∃ (x : Addr) (zs : List Int), v = .ref x ∧ H5 x = some (.lst (mi zs)) ∧ zs.length ≤ 3 ∧ Byt zs := by
          simp only [List.mem_cons, List.not_mem_nil, or_false] at hv
          rcases hv with rfl | rfl | rfl | rfl | rfl | rfl
          · exact ⟨q1, [0], rfl, kp5.lst kp6.bag g1, by decide, byt_of (by decide)⟩
          · exact ⟨q2, [0, 0], rfl, kp5.lst kp6.bag g2, by decide, byt_of (by decide)⟩
          · exact ⟨q3, [0, 255], rfl, kp5.lst kp6.bag g3, by decide, byt_of (by decide)⟩
          · exact ⟨q4, [1], rfl, kp5.lst kp6.bag g4, by decide, byt_of (by decide)⟩
          · exact ⟨q5, [255, 0, 3], rfl, kp5.lst kp6.bag g5, by decide, byt_of (by decide)⟩
          · exact ⟨q6, [0, 7, 200], rfl, kp5.lst kp6.bag g6, by decide, byt_of (by decide)⟩
        refine ⟨x, rfl, _, kp5.lst kp6.bag (tA _ _ hr4), _, hx, (by rw [mi_len, mi_len]; exact sz (by omega)), fun p1 n1 => ⟨kp6.free (kp5.free n1), rs ++ zs, (mi_app rs zs).symm, (kp6.trans kp5).then (same_new n1), brs.app bz, ?_⟩⟩
        rw [List.length_append]
        omega
      clear ka kb A B
      refine ifI fun A B ka kb => ?_
      walk_at "rd"
      refine ⟨_, hr4, ?_⟩
      rw [mi_len]
      refine ite_i (fun h5 => ka _ ?_) (fun h5 => kb _ ?_)
      · clear ka kb A B
        have hpn2 : pn < rs.length := by omega
        have put : ∀ (y : Int) (H5 : Hp) (v3 v4 v5 : Option V), 0 ≤ y → y ≤ 255 → Kp b H4 H5 → ∃ (r' : Addr) (rs' : List Int) (v3' v4' v5' : Option V), [some (V.ref b), some (V.ref a), some (V.ref r), v3, v4, v5] = [some (.ref b), some (.ref a), some (.ref r'), v3', v4', v5'] ∧ H r' = none ∧ (upd H5 r (.lst ((mi rs).set pn (.int y)))) r' = some (.lst (mi rs')) ∧ Kp b H (upd H5 r (.lst ((mi rs).set pn (.int y)))) ∧ Byt rs' ∧ rs'.length ≤ row.length + 3 * (i + 1) := by
          intro y H5 v3 v4 v5 y0 y1 kp5
          refine ⟨r, rs.set pn y, v3, v4, v5, rfl, nr, ?_, Kp.put hB (kp.trans kp5) nr, ?_, ?_⟩
          · rw [upd_same]
            unfold mi
            rw [List.map_set]
          · intro x hx
            rcases List.mem_or_eq_of_mem_set hx with hx | hx
            · exact brs x hx
            · omega
          · rw [List.length_set]
            omega
        refine ifI fun A B ka kb => ?_
        walk_at "rd"
        refine ite_i (fun h6 => ka _ ?_) (fun h6 => kb _ ?_)
        · clear ka kb
          walk_at "rd"
          refine ⟨tyL hr4, _, hr4, by omega, by omega, pn, ?_, _, mapI_get hpn2, nr, rs.eraseIdx pn, ?_, Kp.put hB kp nr, fun x hx => brs x (List.mem_of_mem_eraseIdx hx), ?_⟩
          · rw [mi_len]
            exact seqIx hpn2
          · exact mi_erase rs pn
          · have := List.length_eraseIdx_le rs pn
            omega
        clear ka kb A B
        refine ifI fun A B ka kb => ?_
        walk_at "rd"
        refine ite_i (fun h7 => ka _ ?_) (fun h7 => kb _ ?_)
        · clear ka kb
          refine ⟨.ref b, rfl, b, 256, rfl, kp.bag, by decide, by decide, fun y H5 y0 y1 kp5 => ?_⟩
          exact ⟨.ref r, rfl, .int (pn : Int), rfl, r, _, _, pn, rfl, rfl, kp5.lst kp.bag hr4, (by rw [mi_len]; exact ixN_nat hpn2), put y H5 _ _ _ y0 (by omega) kp5⟩
        · clear ka kb
          refine ⟨.ref b, rfl, by decide, fun p1 n1 => ?_⟩
          have s1 := same_new (o := .lst [.int 0, .int 1, .int 255]) n1
          have kp6 := Kp.same kp.bag s1
          refine ⟨b, p1, _, rfl, kp6.bag, upd_same, (show 0 < 3 by decide), (show 3 ≤ 100000 by decide), fun v H5 hv kp5 => ?_⟩
          obtain ⟨y, rfl, y0, y1⟩ : ∃ y : Int, v = .int y ∧ 0 ≤ y ∧ y ≤ 255 := by
            simp only [List.mem_cons, List.not_mem_nil, or_false] at hv
            rcases hv with rfl | rfl | rfl
            · exact ⟨0, rfl, by decide, by decide⟩
            · exact ⟨1, rfl, by decide, by decide⟩
            · exact ⟨255, rfl, by decide, by decide⟩
          exact ⟨.ref r, rfl, .int (pn : Int), rfl, r, _, _, pn, rfl, rfl, kp5.lst kp6.bag (s1 _ _ hr4), (by rw [mi_len]; exact ixN_nat hpn2), put y H5 _ _ _ y0 y1 (kp6.trans kp5)⟩
      · clear ka kb
        walk_at "rd"
        exact ⟨nr, rs, hr4, kp, brs, by omega⟩
    · rintro σ H' ⟨r, rs, v3, v4, v5, rfl, nr, hr2, kp2, brs, lrs⟩
      refine k2 _ _ ?_
      walk_at "rd"
      exact q r rs H' kp2 hr2 (by omega) brs
end
section
variable {P : Program} {w : World} {K : PySem.W.Frag} {mg : Str → Option Value} {base : Heap}
theorem ok__law_spread_asked (S : Src K mg "_law_spread_asked" s__law_spread_asked) (T : Tx P K mg) (C__law_new_row : Cal P w K mg base CX0 2 "_law_new_row" ["_law_old", "_law_row"] spNewRow) (C_spread : Cal P w K mg base CX0 2 "spread" ["old", "row"] spSpread) (C__law_is_row : Cal P w K mg base CX0 2 "_law_is_row" ["_law_told", "_law_due"] spIsRow)  : Cal P w K mg base CX0 3 "_law_spread_asked" ["_law_old", "_law_row"] spAsked := by
  refine S.cal sc__law_spread_asked bn__law_spread_asked (fun vs H Q E h => ?_) (fun f cdv A outer s H vs Q E hr h => ?_)
  · first | (obtain ⟨rfl, _⟩ := h; rfl) | (obtain ⟨_, rfl, _⟩ := h; rfl) | (obtain ⟨_, _, rfl, _⟩ := h; rfl) | (obtain ⟨_, _, _, rfl, _⟩ := h; rfl) | (obtain ⟨_, _, _, _, rfl, _⟩ := h; rfl) | (obtain ⟨_, _, _, _, _, rfl, _⟩ := h; rfl) | (obtain ⟨_, _, _, _, _, _, rfl, _⟩ := h; rfl)
  · skip
    refine ⟨_, (pss_cons (ps_set (i := 2) sc__law_spread_asked.nd rfl (Or.inl rfl) (Fx.pe_cal C__law_new_row (hr.mono (by decide)) pass0 (Fx.pa_c (pv 0) (Fx.pa_c (pv 1) pa_nil))))
        (pss_cons (ps_set (i := 3) sc__law_spread_asked.nd rfl (Or.inl rfl) (Fx.pe_cTy Fx.list_L T.b_list (by decide +kernel) (Fx.pa_c (pv 0) pa_nil)))
        (pss_cons (ps_set (i := 4) sc__law_spread_asked.nd rfl (Or.inl rfl) (Fx.pe_cTy Fx.list_L T.b_list (by decide +kernel) (Fx.pa_c (pv 1) pa_nil)))
        (pss_cons (ps_set (i := 5) sc__law_spread_asked.nd rfl (Or.inl rfl) (Fx.pe_cal C_spread (hr.mono (by decide)) pass0 (Fx.pa_c (pv 3) (Fx.pa_c (pv 4) pa_nil))))
        (pss_cons (ps_if (PW.pt (pw_or (pt_cmpR (Fx.ne_LL hr.units) (pv 3) (pv 0) (nomark _)) (pw_or1 (pt_cmpR (Fx.ne_LL hr.units) (pv 4) (pv 1) (nomark _))))) (pss_one (ps_ret pe_bl)) pss_nil)
        (pss_cons (ps_if (pt_cmpR op_isNon (pv 2) pe_non (nomark _)) (pss_one (ps_ret (pe_cmpR op_isNon (pv 5) pe_non (nomark _)))) pss_nil)
        (pss_one (ps_ret (Fx.pe_cal C__law_is_row (hr.mono (by decide)) pass0 (Fx.pa_c (pv 5) (Fx.pa_c (pv 2) pa_nil))))))))))), ?_⟩
    obtain ⟨o, r, os, row, rfl, ho, hr0, hlo, hlr, hbo, hbr, q⟩ := h
    have yes : ∀ {A B : Prop} {l : List V}, A → (if l = l then A else B) := fun h => by rw [if_pos rfl]; exact h
    refine seqI fun K1 k1 => ?_
    walk_at "rd"
    have go : ∀ (v : V) (H1 : Hp), Same H H1 → (newRow os row = none ∧ v = .non ∨ ∃ ys d, newRow os row = some ys ∧ v = .ref d ∧ H1 d = some (.lst (mi ys))) → K1 [some (.ref o), some (.ref r), some v, none, none, none] H1 := by
      intro v H1 s1 hv
      refine k1 _ _ ?_
      clear k1
      refine seqI fun K2 k2 => ?_
      walk_at "rd"
      refine ⟨_, s1 _ _ ho, fun p3 n3 => k2 _ _ ?_⟩
      clear k2
      have sB := same_new (o := .lst (mi os)) n3
      have h3 : (upd H1 p3 (.lst (mi os))) p3 = some (.lst (mi os)) := upd_same
      generalize upd H1 p3 (.lst (mi os)) = H3 at sB h3
      refine seqI fun K2 k2 => ?_
      walk_at "rd"
      refine ⟨_, sB _ _ (s1 _ _ hr0), fun p4 n4 => k2 _ _ ?_⟩
      clear k2
      have sC := same_new (o := .lst (mi row)) n4
      have h4 : (upd H3 p4 (.lst (mi row))) p4 = some (.lst (mi row)) := upd_same
      generalize upd H3 p4 (.lst (mi row)) = H4 at sC h4
      replace h3 := sC _ _ h3
      have sA := (s1.trans sB).trans sC
      have hv : newRow os row = none ∧ v = .non ∨ ∃ ys d, newRow os row = some ys ∧ v = .ref d ∧ H4 d = some (.lst (mi ys)) := by
        rcases hv with h | ⟨ys, d, e1, e2, e3⟩
        · exact .inl h
        · exact .inr ⟨ys, d, e1, e2, sC _ _ (sB _ _ e3)⟩
      clear sB sC n3 n4
      refine seqI fun K2 k2 => ?_
      walk_at "rd"
      have go2 : ∀ (u : V) (H5 : Hp), Same H4 H5 → (newRow os row = none ∧ u = .non ∨ ∃ ys d, newRow os row = some ys ∧ u = .ref d ∧ H5 d = some (.tup (mi ys))) → K2 [some (.ref o), some (.ref r), some v, some (.ref p3), some (.ref p4), some u] H5 := by
        intro u H5 s5 hu
        refine k2 _ _ ?_
        clear k2
        refine seqI fun K3 k3 => ?_
        walk_at "rd"
        have sD := sA.trans s5
        refine ⟨_, s5 _ _ h3, _, sD _ _ ho, all_int _, all_int _, yes ⟨_, s5 _ _ h4, _, sD _ _ hr0, all_int _, all_int _, yes (k3 _ _ ?_)⟩⟩
        clear k3
        rcases hv with ⟨e1, rfl⟩ | ⟨ys, d, e1, rfl, hd⟩
        · rcases hu with ⟨_, rfl⟩ | ⟨ys, d, e2, _⟩
          · walk_at "rd"
            rw [decide_eq_true trivial]
            exact q _ sD
          · rw [e1] at e2
            cases e2
        · rcases hu with ⟨e2, _⟩ | ⟨ys', d', e2, rfl, hd'⟩
          · rw [e1] at e2
            cases e2
          · rw [e1] at e2
            cases e2
            walk_at "rd"
            have ly : ys.length ≤ 100000 := by
              have := newRow_len e1
              omega
            exact ⟨d', d, ys, rfl, hd', s5 _ _ hd, ly, q _ sD⟩
      exact ⟨p3, p4, os, row, rfl, .inl h3, .inl h4, hlo, hlr, hbo, hbr, fun e H5 s5 => go2 _ _ s5 (.inl ⟨e, rfl⟩), fun ys e p H5 s5 hp => go2 _ _ s5 (.inr ⟨ys, p, e, rfl, hp⟩)⟩
    exact ⟨o, r, os, row, rfl, ho, hr0, hlo, hlr, hbr, fun e H1 s1 => go _ _ s1 (.inl ⟨e, rfl⟩), fun ys e p H1 s1 hp => go _ _ s1 (.inr ⟨ys, p, e, rfl, hp⟩)⟩
end
section
variable {P : Program} {w : World} {K : PySem.W.Frag} {mg : Str → Option Value} {base : Heap}
theorem ok_law {f0 : Addr} {fd : FuncData} (F : FunD K "law" "law" (defArgs s_law) (defBody s_law) (defScope s_law) [] [] f0 fd) (T : Tx P K mg) (C__law_bag : Cal P w K mg base CX0 1 "_law_bag" ["_law_script"] (spBag K)) (C__law_pair : Cal P w K mg base CX0 3 "_law_pair" ["_law_bag_here"] spPair) (C__law_there_and_back : Cal P w K mg base CX0 3 "_law_there_and_back" ["_law_old", "_law_new"] spBack) (C__law_differences : Cal P w K mg base CX0 1 "_law_differences" ["_law_old", "_law_new"] spDiff) (C__law_packed : Cal P w K mg base CX0 1 "_law_packed" ["_law_row"] spPacked) (C__law_changed : Cal P w K mg base CX0 3 "_law_changed" ["_law_bag_here", "_law_told"] spChanged) (C__law_spread_asked : Cal P w K mg base CX0 3 "_law_spread_asked" ["_law_old", "_law_row"] spAsked)  : FnOk P w K mg base CX0 4 f0 fd ["_law_script"] (spLaw K) := by
  refine law0 F sc_law (fun vs H Q E h => ?_) (fun f cdv A outer s H vs Q E hr h => ?_)
  · first | (obtain ⟨rfl, _⟩ := h; rfl) | (obtain ⟨_, rfl, _⟩ := h; rfl) | (obtain ⟨_, _, rfl, _⟩ := h; rfl) | (obtain ⟨_, _, _, rfl, _⟩ := h; rfl) | (obtain ⟨_, _, _, _, rfl, _⟩ := h; rfl) | (obtain ⟨_, _, _, _, _, rfl, _⟩ := h; rfl) | (obtain ⟨_, _, _, _, _, _, rfl, _⟩ := h; rfl)
  · skip
    refine ⟨_, (pss_cons (ps_set (i := 1) sc_law.nd rfl (Or.inl rfl) (Fx.pe_cal C__law_bag (hr.mono (by decide)) pass0 (Fx.pa_c (pv 0) pa_nil)))
        (pss_cons (ps_asg (Fx.pe_cal C__law_pair (hr.mono (by decide)) pass0 (Fx.pa_c (pv 1) pa_nil)) (pg_tup rfl (pgs_cons (pg_name (i := 2) sc_law.nd rfl (Or.inl rfl)) (pgs_cons (pg_name (i := 3) sc_law.nd rfl (Or.inl rfl)) pgs_nil))))
        (pss_cons (ps_asg (Fx.pe_cal C__law_pair (hr.mono (by decide)) pass0 (Fx.pa_c (pv 1) pa_nil)) (pg_tup rfl (pgs_cons (pg_name (i := 4) sc_law.nd rfl (Or.inl rfl)) (pgs_cons (pg_name (i := 5) sc_law.nd rfl (Or.inl rfl)) pgs_nil))))
        (pss_cons (ps_if (PW.pt (pw_or (pt_not (pt_val (Fx.pe_cal C__law_there_and_back (hr.mono (by decide)) pass0 (Fx.pa_c (pv 2) (Fx.pa_c (pv 3) pa_nil))))) (pw_or1 (pt_not (pt_val (Fx.pe_cal C__law_there_and_back (hr.mono (by decide)) pass0 (Fx.pa_c (pv 4) (Fx.pa_c (pv 5) pa_nil)))))))) (pss_one (ps_ret pe_bl)) pss_nil)
        (pss_cons (ps_if (PW.pt (pw_or (pt_not (pt_val (Fx.pe_cal C__law_there_and_back (hr.mono (by decide)) pass0 (Fx.pa_c (pv 3) (Fx.pa_c (pv 2) pa_nil))))) (pw_or1 (pt_not (pt_val (Fx.pe_cal C__law_there_and_back (hr.mono (by decide)) pass0 (Fx.pa_c (pv 2) (Fx.pa_c (pv 2) pa_nil)))))))) (pss_one (ps_ret pe_bl)) pss_nil)
        (pss_cons (ps_for PassesOwn.never rfl (pi_range1 rfl T.b_range (Fx.pa_c pe_int pa_nil)) (pg_name (i := 6) sc_law.nd rfl (Or.inl rfl)) (pss_cons (ps_if (pt_not (pt_val (Fx.pe_cal C__law_spread_asked (hr.mono (by decide)) pass0 (Fx.pa_c (pv 2) (Fx.pa_c (Fx.pe_cal C__law_changed (hr.mono (by decide)) pass0 (Fx.pa_c (pv 1) (Fx.pa_c (Fx.pe_cal C__law_packed (hr.mono (by decide)) pass0 (Fx.pa_c (Fx.pe_cal C__law_differences (hr.mono (by decide)) pass0 (Fx.pa_c (pv 2) (Fx.pa_c (pv 3) pa_nil))) pa_nil)) pa_nil))) pa_nil))))) (pss_one (ps_ret pe_bl)) pss_nil)
        (pss_one (ps_if (pt_not (pt_val (Fx.pe_cal C__law_spread_asked (hr.mono (by decide)) pass0 (Fx.pa_c (pv 4) (Fx.pa_c (Fx.pe_cal C__law_changed (hr.mono (by decide)) pass0 (Fx.pa_c (pv 1) (Fx.pa_c (Fx.pe_cal C__law_packed (hr.mono (by decide)) pass0 (Fx.pa_c (Fx.pe_cal C__law_differences (hr.mono (by decide)) pass0 (Fx.pa_c (pv 4) (Fx.pa_c (pv 5) pa_nil))) pa_nil)) pa_nil))) pa_nil))))) (pss_one (ps_ret pe_bl)) pss_nil))))
        (pss_cons (ps_if (pt_not (pt_val (Fx.pe_cal C__law_spread_asked (hr.mono (by decide)) pass0 (Fx.pa_c (pv 2) (Fx.pa_c (Fx.pe_cal C__law_packed (hr.mono (by decide)) pass0 (Fx.pa_c (Fx.pe_cal C__law_differences (hr.mono (by decide)) pass0 (Fx.pa_c (pv 4) (Fx.pa_c (pv 5) pa_nil))) pa_nil)) pa_nil))))) (pss_one (ps_ret pe_bl)) pss_nil)
        (pss_one (ps_ret (Fx.pe_cal C__law_there_and_back (hr.mono (by decide)) pass0 (Fx.pa_c (pv 2) (Fx.pa_c (pv 3) pa_nil)))))))))))), ?_⟩
    obtain ⟨a, ns0, rfl, hS, hlen, q⟩ := h
    refine seqI fun K1 k1 => ?_
    walk_at "rd"
    refine ⟨a, ns0, rfl, hS, hlen, fun b H1 s1 nb hB => k1 _ _ ?_⟩
    clear k1 s1 nb
    refine seqI fun K1 k1 => ?_
    refine ⟨.ref b, rfl, b, rfl, hB, fun t o n os ns H2 kp2 ht ho hn hl hln bo bn => ⟨t, _, rfl, .inl (.inl ht), rfl, _, _, rfl, _, _, rfl, rfl, k1 _ _ ?_⟩⟩
    clear k1
    refine seqI fun K1 k1 => ?_
    refine ⟨.ref b, rfl, b, rfl, kp2.bag, fun t' o' n' os' ns' H3 kp3 ht' ho' hn' hl' hln' bo' bn' => ⟨t', _, rfl, .inl (.inl ht'), rfl, _, _, rfl, _, _, rfl, rfl, k1 _ _ ?_⟩⟩
    clear k1 ht ht'
    replace ho := kp3.lst kp2.bag ho
    replace hn := kp3.lst kp2.bag hn
    have B3 := kp3.bag
    clear kp2 kp3
    have back : ∀ {H4 H5 : Hp}, Same H3 H4 → Same H4 H5 → Same H3 H5 := fun x y => x.trans y
    refine seqI fun K1 k1 => ?_
    walk_at "rd"
    refine ⟨o, n, os, ns, rfl, ho, hn, hl, hln, bo, bn, fun H4 s4 => ⟨true, rfl, ?_⟩⟩
    rw [if_neg (by decide)]
    refine ⟨o', n', os', ns', rfl, s4 _ _ ho', s4 _ _ hn', hl', hln', bo', bn', fun H5 s5 => ⟨true, rfl, ?_⟩⟩
    rw [if_neg (by decide)]
    refine k1 _ _ ?_
    clear k1
    have sA := s4.trans s5
    clear s4 s5
    refine seqI fun K1 k1 => ?_
    walk_at "rd"
    refine ⟨n, o, ns, os, rfl, sA _ _ hn, sA _ _ ho, hl.symm, by omega, bn, bo, fun H6 s6 => ⟨true, rfl, ?_⟩⟩
    rw [if_neg (by decide)]
    refine ⟨o, o, os, os, rfl, s6 _ _ (sA _ _ ho), s6 _ _ (sA _ _ ho), rfl, by omega, bo, bo, fun H7 s7 => ⟨true, rfl, ?_⟩⟩
    rw [if_neg (by decide)]
    refine k1 _ _ ?_
    clear k1
    replace sA := sA.trans (s6.trans s7)
    clear s6 s7
    refine seqI fun K1 k1 => ?_
    refine ⟨6, rfl, by decide, by decide, for_range (lo := 0) (n := 6) (fun i σ H8 => ∃ v, σ = [some (.ref a), some (.ref b), some (.ref o), some (.ref n), some (.ref o'), some (.ref n'), v] ∧ Kp b H3 H8) ⟨none, rfl, Kp.same B3 sA⟩ ?_ ?_⟩
    · rintro i σ H8 hi ⟨v, rfl, kp8⟩
      clear k1
      refine seqI fun K2 k2 => ?_
      walk_at "rd"
      refine ⟨o, n, os, ns, rfl, kp8.lst B3 ho, kp8.lst B3 hn, hl, hln, fun p1 H9 s9 n9 h9 => ?_⟩
      have ld : (diff os ns).length = ns.length := by rw [diff_len]; omega
      have lp := pk_len (diff os ns) 0
      refine ⟨p1, _, rfl, h9, by omega, fun p2 H10 s10 n10 h10 => ?_⟩
      have kp10 := (kp8.then s9).then s10
      refine ⟨b, p2, _, rfl, kp10.bag, h10, by omega, pk_byt _ 0 (diff_byt os ns), fun p3 rs H11 kp11 h11 l11 b11 => ?_⟩
      have kpA := kp10.trans kp11
      refine ⟨o, p3, os, rs, rfl, kpA.lst B3 ho, h11, by omega, by omega, bo, b11, fun H12 s12 => ⟨true, rfl, ?_⟩⟩
      rw [if_neg (by decide)]
      refine k2 _ _ ?_
      clear k2 h9 n9 n10 h10 h11
      have kpB := kpA.then s12
      clear kpA s12 kp11 kp10 s10 s9 kp8 ld lp l11
      walk_at "rd"
      refine ⟨o', n', os', ns', rfl, kpB.lst B3 ho', kpB.lst B3 hn', hl', hln', fun p1 H9 s9 n9 h9 => ?_⟩
      have ld : (diff os' ns').length = ns'.length := by rw [diff_len]; omega
      have lp := pk_len (diff os' ns') 0
      refine ⟨p1, _, rfl, h9, by omega, fun p2 H10 s10 n10 h10 => ?_⟩
      have kp10 := (kpB.then s9).then s10
      refine ⟨b, p2, _, rfl, kp10.bag, h10, by omega, pk_byt _ 0 (diff_byt os' ns'), fun p3 rs H11 kp11 h11 l11 b11 => ?_⟩
      have kpA := kp10.trans kp11
      refine ⟨o', p3, os', rs, rfl, kpA.lst B3 ho', h11, by omega, by omega, bo', b11, fun H12 s12 => ⟨true, rfl, ?_⟩⟩
      rw [if_neg (by decide)]
      exact kpA.then s12
    · rintro σ H8 ⟨v, rfl, kp8⟩
      refine k1 _ _ ?_
      clear k1
      refine seqI fun K1 k1 => ?_
      walk_at "rd"
      refine ⟨o', n', os', ns', rfl, kp8.lst B3 ho', kp8.lst B3 hn', hl', hln', fun p1 H9 s9 n9 h9 => ?_⟩
      have ld : (diff os' ns').length = ns'.length := by rw [diff_len]; omega
      have lp := pk_len (diff os' ns') 0
      refine ⟨p1, _, rfl, h9, by omega, fun p2 H10 s10 n10 h10 => ?_⟩
      have kp10 := (kp8.then s9).then s10
      refine ⟨o, p2, os, _, rfl, kp10.lst B3 ho, h10, by omega, by omega, bo, pk_byt _ 0 (diff_byt os' ns'), fun H12 s12 => ⟨true, rfl, ?_⟩⟩
      rw [if_neg (by decide)]
      refine k1 _ _ ?_
      have kpB := kp10.then s12
      walk_at "rd"
      exact ⟨o, n, os, ns, rfl, kpB.lst B3 ho, kpB.lst B3 hn, hl, hln, bo, bn, fun H13 _ => q H13⟩
end
def d_f_squeezed : He.DefD := ⟨("squeezed", none), "squeezed", "squeezed", defArgs s_squeezed, defBody s_squeezed, defScope s_squeezed, [], []⟩
def d_f_spread : He.DefD := ⟨("spread", none), "spread", "spread", defArgs s_spread, defBody s_spread, defScope s_spread, [], []⟩
def d_f__law_bag : He.DefD := ⟨("_law_bag", none), "_law_bag", "_law_bag", defArgs s__law_bag, defBody s__law_bag, defScope s__law_bag, [], []⟩
def d_f__law_pick : He.DefD := ⟨("_law_pick", none), "_law_pick", "_law_pick", defArgs s__law_pick, defBody s__law_pick, defScope s__law_pick, [], []⟩
def d_f__law_choice : He.DefD := ⟨("_law_choice", none), "_law_choice", "_law_choice", defArgs s__law_choice, defBody s__law_choice, defScope s__law_choice, [], []⟩
def d_f__law_one_in : He.DefD := ⟨("_law_one_in", none), "_law_one_in", "_law_one_in", defArgs s__law_one_in, defBody s__law_one_in, defScope s__law_one_in, [], []⟩
def d_f__law_integer : He.DefD := ⟨("_law_integer", none), "_law_integer", "_law_integer", defArgs s__law_integer, defBody s__law_integer, defScope s__law_integer, [], []⟩
def d_f__law_length : He.DefD := ⟨("_law_length", none), "_law_length", "_law_length", defArgs s__law_length, defBody s__law_length, defScope s__law_length, [], []⟩
def d_f__law_stretch : He.DefD := ⟨("_law_stretch", none), "_law_stretch", "_law_stretch", defArgs s__law_stretch, defBody s__law_stretch, defScope s__law_stretch, [], []⟩
def d_f__law_pair : He.DefD := ⟨("_law_pair", none), "_law_pair", "_law_pair", defArgs s__law_pair, defBody s__law_pair, defScope s__law_pair, [], []⟩
def d_f__law_differences : He.DefD := ⟨("_law_differences", none), "_law_differences", "_law_differences", defArgs s__law_differences, defBody s__law_differences, defScope s__law_differences, [], []⟩
def d_f__law_packed : He.DefD := ⟨("_law_packed", none), "_law_packed", "_law_packed", defArgs s__law_packed, defBody s__law_packed, defScope s__law_packed, [], []⟩
def d_f__law_unpacked : He.DefD := ⟨("_law_unpacked", none), "_law_unpacked", "_law_unpacked", defArgs s__law_unpacked, defBody s__law_unpacked, defScope s__law_unpacked, [], []⟩
def d_f__law_new_row : He.DefD := ⟨("_law_new_row", none), "_law_new_row", "_law_new_row", defArgs s__law_new_row, defBody s__law_new_row, defScope s__law_new_row, [], []⟩
def d_f__law_is_row : He.DefD := ⟨("_law_is_row", none), "_law_is_row", "_law_is_row", defArgs s__law_is_row, defBody s__law_is_row, defScope s__law_is_row, [], []⟩
def d_f__law_there_and_back : He.DefD := ⟨("_law_there_and_back", none), "_law_there_and_back", "_law_there_and_back", defArgs s__law_there_and_back, defBody s__law_there_and_back, defScope s__law_there_and_back, [], []⟩
def d_f__law_parted : He.DefD := ⟨("_law_parted", none), "_law_parted", "_law_parted", defArgs s__law_parted, defBody s__law_parted, defScope s__law_parted, [], []⟩
def d_f__law_changed : He.DefD := ⟨("_law_changed", none), "_law_changed", "_law_changed", defArgs s__law_changed, defBody s__law_changed, defScope s__law_changed, [], []⟩
def d_f__law_spread_asked : He.DefD := ⟨("_law_spread_asked", none), "_law_spread_asked", "_law_spread_asked", defArgs s__law_spread_asked, defBody s__law_spread_asked, defScope s__law_spread_asked, [], []⟩
def d_f_law : He.DefD := ⟨("law", none), "law", "law", defArgs s_law, defBody s_law, defScope s_law, [], []⟩
def fn : List He.DefD := [d_f_squeezed, d_f_spread, d_f__law_bag, d_f__law_pick, d_f__law_choice, d_f__law_one_in, d_f__law_integer, d_f__law_length, d_f__law_stretch, d_f__law_pair, d_f__law_differences, d_f__law_packed, d_f__law_unpacked, d_f__law_new_row, d_f__law_is_row, d_f__law_there_and_back, d_f__law_parted, d_f__law_changed, d_f__law_spread_asked, d_f_law]
def fi : List FxH.InD := []
def fa : List FxH.Fct := [(He.Fa.free "bool").ok,
  (He.Fa.free "enumerate").ok,
  (He.Fa.free "int").ok,
  (He.Fa.free "isinstance").ok,
  (He.Fa.free "len").ok,
  (He.Fa.free "list").ok,
  (He.Fa.free "min").ok,
  (He.Fa.free "range").ok,
  (He.Fa.free "tuple").ok,
  (He.Fa.int "LONGEST_ZEROS" 256).ok,
  (He.Fa.glo "squeezed").ok,
  (He.Fa.glo "spread").ok,
  (He.Fa.glo "_law_bag").ok,
  (He.Fa.glo "_law_pick").ok,
  (He.Fa.glo "_law_choice").ok,
  (He.Fa.glo "_law_one_in").ok,
  (He.Fa.glo "_law_integer").ok,
  (He.Fa.glo "_law_length").ok,
  (He.Fa.glo "_law_stretch").ok,
  (He.Fa.glo "_law_pair").ok,
  (He.Fa.glo "_law_differences").ok,
  (He.Fa.glo "_law_packed").ok,
  (He.Fa.glo "_law_unpacked").ok,
  (He.Fa.glo "_law_new_row").ok,
  (He.Fa.glo "_law_is_row").ok,
  (He.Fa.glo "_law_there_and_back").ok,
  (He.Fa.glo "_law_parted").ok,
  (He.Fa.glo "_law_changed").ok,
  (He.Fa.glo "_law_spread_asked").ok,
  (He.Fa.glo "law").ok]
abbrev R : PySem.W.OpenRow := PySem.W.OpenLaw.row PySem.Challenge.rw_fablemill_k24_squeezed
def file : Str := PySem.Challenge.pw_fablemill_k24_squeezed.main.file
abbrev hk : PySem.W.Hook := FxH.hookX 6 file fa fn fi
def ob (s : PySem.W.SharedT) : FxH.AlX := FxH.obsXG 6 file fa fn fi (HandSHeadRun.getT s)
theorem ob_eq (s : PySem.W.SharedT) : ob s = hk.obs s.abs := FxH.obsXG_eq (HandSHeadRun.getT_eq s)
def loose : List PySem.Str := (["LONGEST_ZEROS", "squeezed", "spread", "_law_bag", "_law_pick", "_law_choice", "_law_one_in", "_law_integer", "_law_length", "_law_stretch", "_law_pair", "_law_differences", "_law_packed", "_law_unpacked", "_law_new_row", "_law_is_row", "_law_there_and_back", "_law_parted", "_law_changed", "_law_spread_asked"] : List PySem.Str)
theorem run (w : World) : HandSHeadRun.RunEq R (PySem.W.view R.prog [22]) hk ob 4000 loose w := by
  intro os
  kernel_rfl
theorem facts {w : World} {K : PySem.W.Frag} {h : Heap} {mg : Str → Option Value} {f : Addr} (X : K.In h) (G : h.Ns mainGlobals mg) (hfa : mg ("law" : Str) = some (.ref f)) (c : FxH.SaysX file fa fn fi K) :
    ∃ fd : FuncData, (∀ (s : Shared) (v : Value), BindsTo s fd ⟨[v], []⟩ [("_law_script", v)]) ∧ ∀ base : Heap, K.In base → base.Ns mainGlobals mg → FnOk PySem.Challenge.pw_fablemill_k24_squeezed w K mg base CX0 4 f fd ["_law_script"] (spLaw K) := by
  have T : Tx PySem.Challenge.pw_fablemill_k24_squeezed K mg := {
    b_bool := He.free_ok X G (c.fact 0),
    b_enumerate := He.free_ok X G (c.fact 1),
    b_int := He.free_ok X G (c.fact 2),
    b_isinstance := He.free_ok X G (c.fact 3),
    b_len := He.free_ok X G (c.fact 4),
    b_list := He.free_ok X G (c.fact 5),
    b_min := He.free_ok X G (c.fact 6),
    b_range := He.free_ok X G (c.fact 7),
    b_tuple := He.free_ok X G (c.fact 8),
    c_LONGEST_ZEROS := cst_int (He.int_ok X G (c.fact 9)) }
  obtain ⟨fd0, F0⟩ := c.def_ 0 (d := d_f_squeezed) rfl
  have S_squeezed : Src K mg "squeezed" s_squeezed := ⟨_, fd0, He.glo_ok X G (c.fact 10), F0⟩
  obtain ⟨fd1, F1⟩ := c.def_ 1 (d := d_f_spread) rfl
  have S_spread : Src K mg "spread" s_spread := ⟨_, fd1, He.glo_ok X G (c.fact 11), F1⟩
  obtain ⟨fd2, F2⟩ := c.def_ 2 (d := d_f__law_bag) rfl
  have S__law_bag : Src K mg "_law_bag" s__law_bag := ⟨_, fd2, He.glo_ok X G (c.fact 12), F2⟩
  obtain ⟨fd3, F3⟩ := c.def_ 3 (d := d_f__law_pick) rfl
  have S__law_pick : Src K mg "_law_pick" s__law_pick := ⟨_, fd3, He.glo_ok X G (c.fact 13), F3⟩
  obtain ⟨fd4, F4⟩ := c.def_ 4 (d := d_f__law_choice) rfl
  have S__law_choice : Src K mg "_law_choice" s__law_choice := ⟨_, fd4, He.glo_ok X G (c.fact 14), F4⟩
  obtain ⟨fd5, F5⟩ := c.def_ 5 (d := d_f__law_one_in) rfl
  have S__law_one_in : Src K mg "_law_one_in" s__law_one_in := ⟨_, fd5, He.glo_ok X G (c.fact 15), F5⟩
  obtain ⟨fd6, F6⟩ := c.def_ 6 (d := d_f__law_integer) rfl
  have S__law_integer : Src K mg "_law_integer" s__law_integer := ⟨_, fd6, He.glo_ok X G (c.fact 16), F6⟩
  obtain ⟨fd7, F7⟩ := c.def_ 7 (d := d_f__law_length) rfl
  have S__law_length : Src K mg "_law_length" s__law_length := ⟨_, fd7, He.glo_ok X G (c.fact 17), F7⟩
  obtain ⟨fd8, F8⟩ := c.def_ 8 (d := d_f__law_stretch) rfl
  have S__law_stretch : Src K mg "_law_stretch" s__law_stretch := ⟨_, fd8, He.glo_ok X G (c.fact 18), F8⟩
  obtain ⟨fd9, F9⟩ := c.def_ 9 (d := d_f__law_pair) rfl
  have S__law_pair : Src K mg "_law_pair" s__law_pair := ⟨_, fd9, He.glo_ok X G (c.fact 19), F9⟩
  obtain ⟨fd10, F10⟩ := c.def_ 10 (d := d_f__law_differences) rfl
  have S__law_differences : Src K mg "_law_differences" s__law_differences := ⟨_, fd10, He.glo_ok X G (c.fact 20), F10⟩
  obtain ⟨fd11, F11⟩ := c.def_ 11 (d := d_f__law_packed) rfl
  have S__law_packed : Src K mg "_law_packed" s__law_packed := ⟨_, fd11, He.glo_ok X G (c.fact 21), F11⟩
  obtain ⟨fd12, F12⟩ := c.def_ 12 (d := d_f__law_unpacked) rfl
  have S__law_unpacked : Src K mg "_law_unpacked" s__law_unpacked := ⟨_, fd12, He.glo_ok X G (c.fact 22), F12⟩
  obtain ⟨fd13, F13⟩ := c.def_ 13 (d := d_f__law_new_row) rfl
  have S__law_new_row : Src K mg "_law_new_row" s__law_new_row := ⟨_, fd13, He.glo_ok X G (c.fact 23), F13⟩
  obtain ⟨fd14, F14⟩ := c.def_ 14 (d := d_f__law_is_row) rfl
  have S__law_is_row : Src K mg "_law_is_row" s__law_is_row := ⟨_, fd14, He.glo_ok X G (c.fact 24), F14⟩
  obtain ⟨fd15, F15⟩ := c.def_ 15 (d := d_f__law_there_and_back) rfl
  have S__law_there_and_back : Src K mg "_law_there_and_back" s__law_there_and_back := ⟨_, fd15, He.glo_ok X G (c.fact 25), F15⟩
  obtain ⟨fd16, F16⟩ := c.def_ 16 (d := d_f__law_parted) rfl
  have S__law_parted : Src K mg "_law_parted" s__law_parted := ⟨_, fd16, He.glo_ok X G (c.fact 26), F16⟩
  obtain ⟨fd17, F17⟩ := c.def_ 17 (d := d_f__law_changed) rfl
  have S__law_changed : Src K mg "_law_changed" s__law_changed := ⟨_, fd17, He.glo_ok X G (c.fact 27), F17⟩
  obtain ⟨fd18, F18⟩ := c.def_ 18 (d := d_f__law_spread_asked) rfl
  have S__law_spread_asked : Src K mg "_law_spread_asked" s__law_spread_asked := ⟨_, fd18, He.glo_ok X G (c.fact 28), F18⟩
  obtain ⟨fd, F⟩ := c.def_ 19 (d := d_f_law) rfl
  have e := hfa.symm.trans (He.glo_ok X G (c.fact 29 (f := (He.Fa.glo "law").ok) rfl))
  cases e
  have b := FunD.bindsA (ps := ["_law_script"]) F fun _ _ _ _ _ _ us hl => match us, hl with | [_], _ => rfl
  refine ⟨fd, fun s v => b s [v] rfl, fun base hK hG => ?_⟩
  have C_squeezed : Cal PySem.Challenge.pw_fablemill_k24_squeezed w K mg base CX0 1 "squeezed" ["old", "new"] spSqueezed := ok_squeezed S_squeezed T 
  have C_spread : Cal PySem.Challenge.pw_fablemill_k24_squeezed w K mg base CX0 2 "spread" ["old", "row"] spSpread := ok_spread S_spread T C_squeezed
  have C__law_bag : Cal PySem.Challenge.pw_fablemill_k24_squeezed w K mg base CX0 1 "_law_bag" ["_law_script"] (spBag K) := ok__law_bag S__law_bag T 
  have C__law_pick : Cal PySem.Challenge.pw_fablemill_k24_squeezed w K mg base CX0 1 "_law_pick" ["_law_bag_here", "_law_many"] spPick := ok__law_pick S__law_pick T 
  have C__law_choice : Cal PySem.Challenge.pw_fablemill_k24_squeezed w K mg base CX0 2 "_law_choice" ["_law_bag_here", "_law_things"] spChoiceL := ok__law_choice S__law_choice T C__law_pick
  have C__law_one_in : Cal PySem.Challenge.pw_fablemill_k24_squeezed w K mg base CX0 2 "_law_one_in" ["_law_bag_here", "_law_many"] spOneIn := ok__law_one_in S__law_one_in T C__law_pick
  have C__law_integer : Cal PySem.Challenge.pw_fablemill_k24_squeezed w K mg base CX0 1 "_law_integer" ["_law_thing"] spInteger := ok__law_integer S__law_integer T 
  have C__law_length : Cal PySem.Challenge.pw_fablemill_k24_squeezed w K mg base CX0 2 "_law_length" ["_law_bag_here"] spLength := ok__law_length S__law_length T C__law_pick
  have C__law_stretch : Cal PySem.Challenge.pw_fablemill_k24_squeezed w K mg base CX0 2 "_law_stretch" ["_law_bag_here", "_law_many", "_law_is_equal"] spStretch := ok__law_stretch S__law_stretch T C__law_pick
  have C__law_pair : Cal PySem.Challenge.pw_fablemill_k24_squeezed w K mg base CX0 3 "_law_pair" ["_law_bag_here"] spPair := ok__law_pair S__law_pair T C__law_pick C__law_one_in C__law_length C__law_stretch
  have C__law_differences : Cal PySem.Challenge.pw_fablemill_k24_squeezed w K mg base CX0 1 "_law_differences" ["_law_old", "_law_new"] spDiff := ok__law_differences S__law_differences T 
  have C__law_packed : Cal PySem.Challenge.pw_fablemill_k24_squeezed w K mg base CX0 1 "_law_packed" ["_law_row"] spPacked := ok__law_packed S__law_packed T 
  have C__law_unpacked : Cal PySem.Challenge.pw_fablemill_k24_squeezed w K mg base CX0 1 "_law_unpacked" ["_law_row"] spUnpacked := ok__law_unpacked S__law_unpacked T 
  have C__law_new_row : Cal PySem.Challenge.pw_fablemill_k24_squeezed w K mg base CX0 2 "_law_new_row" ["_law_old", "_law_row"] spNewRow := ok__law_new_row S__law_new_row T C__law_unpacked C__law_packed
  have C__law_is_row : Cal PySem.Challenge.pw_fablemill_k24_squeezed w K mg base CX0 2 "_law_is_row" ["_law_told", "_law_due"] spIsRow := ok__law_is_row S__law_is_row T C__law_integer
  have C__law_there_and_back : Cal PySem.Challenge.pw_fablemill_k24_squeezed w K mg base CX0 3 "_law_there_and_back" ["_law_old", "_law_new"] spBack := ok__law_there_and_back S__law_there_and_back T C__law_differences C__law_packed C_squeezed C__law_is_row C_spread
  have C__law_parted : Cal PySem.Challenge.pw_fablemill_k24_squeezed w K mg base CX0 2 "_law_parted" ["_law_bag_here", "_law_row"] spParted := ok__law_parted S__law_parted T C__law_pick
  have C__law_changed : Cal PySem.Challenge.pw_fablemill_k24_squeezed w K mg base CX0 3 "_law_changed" ["_law_bag_here", "_law_told"] spChanged := ok__law_changed S__law_changed T C__law_pick C__law_choice C__law_parted
  have C__law_spread_asked : Cal PySem.Challenge.pw_fablemill_k24_squeezed w K mg base CX0 3 "_law_spread_asked" ["_law_old", "_law_row"] spAsked := ok__law_spread_asked S__law_spread_asked T C__law_new_row C_spread C__law_is_row
  exact ok_law F T C__law_bag C__law_pair C__law_there_and_back C__law_differences C__law_packed C__law_changed C__law_spread_asked
end K24
open PySem PySem.W PySem.Calls PyProof.Rows
theorem PySem.Challenge.cw_fablemill_k24_squeezed_holds : PySem.Challenge.rw_fablemill_k24_squeezed.Holds := by
  w_on; o_law
  refine HandSHeadRun.head_any (r := OpenLaw.row PySem.Challenge.rw_fablemill_k24_squeezed) (q := view (OpenLaw.row PySem.Challenge.rw_fablemill_k24_squeezed).prog [22]) (H := K24.hk) (ob := K24.ob) (M := 4000) (loose := K24.loose) (d := HandSHeadRun.topDef (OpenLaw.row PySem.Challenge.rw_fablemill_k24_squeezed).prog 22) (kwd := []) K24.ob_eq
    (by kernel_rfl) (fun s => by kernel_rfl) K24.run (by kernel_rfl) (by kernel_rfl) (by kernel_rfl) (by rfl) (by first | assumption | decide +kernel) (by decide +kernel) ⟨rfl, rfl, rfl, rfl, rfl, by decide +kernel⟩ ?hw ?hc
  case hw => w_witness2
  case hc =>
    refine L2.walk_ofE (l := PySem.Challenge.rw_fablemill_k24_squeezed) (n := 63) (k := 4) (x := "_law_script") (CX := L2.CX0) rfl (by decide) (by kernel_rfl) ⟨rfl, by decide, by decide⟩ ?F (fun _ _ _ _ z => z)
    intro w mg fa h Y G hmg0
    obtain ⟨K, KX, c⟩ := Y
    have hmg : mg ("law" : PySem.Str) = some (.ref fa) := by
      have e : (HandSHeadRun.topDef (OpenLaw.row PySem.Challenge.rw_fablemill_k24_squeezed).prog 22).name = ("law" : PySem.Str) := by kernel_rfl
      rw [← e]
      exact hmg0
    obtain ⟨fd, hb, hF⟩ := K24.facts (w := w) KX G hmg c
    exact ⟨K, fd, (K24.spLaw K), KX, hb, fun H a ns hl _ hS => ⟨a, ns, rfl, hS, Nat.le_trans hl (by decide), fun _ => rfl⟩, hF⟩
