import PyProof.Rows.All
import Wide.All
import OpenK.AllK
import Wide.FinOn
import KE.KStateDown
import KE.KExcSuper
import Lean
import HandS.ForMost
import HandS.ForExc
import HandS.ExcInit
import HandS.ExcSuper
import HandS.ExcField
import HandS.ExcIs
import HandS.IsInst
import HandS.Defaults
import HandS.Replace
import HandS.ReplaceLit
import HandS.ReplaceDef
import HandS.Head0
import HandS.Head1
import HandS.Head2
import HandS.HeadEnd
import HandS.HeadHook1
import HandS.HeadHook2
import HandS.Wide
import HandS.WideBits
import HandS.ReplaceList
import PySem.Challenge.RW_fablemill_k07_codes_and_texts
set_option Elab.async false
set_option linter.all false
set_option maxRecDepth 100000
set_option maxHeartbeats 4000000
/-! Own errors of the shape: class C(FableError): def __init__(self, f): super().__init__('..'); self.f = f -/
namespace Fx
open PySem PySem.W PySem.Calls PyProof.Rows PySem.HandSPX
/-- the text of such an __init__ -/
def xA (f : Str) (p1 p2 : Pos) : Arguments := { posonlyargs := [], args := [{ arg := "self", annotation := none, pos := p1 }, { arg := f, annotation := none, pos := p2 }], vararg := none, kwonlyargs := [], kw_defaults := [], kwarg := none, defaults := [] }
def xB (f m : Str) (q1 q2 q3 q4 q5 q6 q7 q8 q9 q10 : Pos) : List Stmt :=
  [.Expr (.Call (.Attribute (.Call (.Name "super" q1) [] [] q2) "__init__" q3) [.Constant (.str m) 0 q4] [] q5) q6,
   .Assign [.Attribute (.Name "self" q7) f q8] (.Name f q9) q10]
def xS (f : Str) : Scope := { kind := .function, names := [(PySem.Str.ofString "self", .local), (f, .local), (PySem.Str.ofString "__class__", .free), (PySem.Str.ofString "super", .globalImplicit)], isGenerator := false, isCoroutine := false, more := [] }
/-- a field's name that does not clash -/
structure FOk (f : Str) : Prop where
  ns : f ≠ "self"
  nc : f ≠ "__class__"
  nu : f ≠ "super"
  nd : (f == ("__debug__" : Str)) = false
theorem FOk.mk' {f : Str} (h1 : decide (f ≠ "self") = true) (h2 : decide (f ≠ "__class__") = true) (h3 : decide (f ≠ "super") = true) (h4 : (f == ("__debug__" : Str)) = false) : FOk f :=
  ⟨of_decide_eq_true h1, of_decide_eq_true h2, of_decide_eq_true h3, h4⟩
/-- what the written part says of the class at C, its name x, its field f -/
structure XC (K : Frag) (P : Program) (x f : Str) (C : Addr) : Prop where
  fo : FOk f
  cls : ∃ nm q N bs bm sn sub ab col dd k0 k1 k2 k3 k5, K.lookup C = some (excClassObj nm q C N bs bm true sn sub ab col dd k0 k1 k2 k3 k5 "ValueError.__new__") ∧ refsVE bm = true ∧ alongIn K "__init__" bm = some (some (.builtin "ValueError.__init__"))
  sa : findIn K (.ref C) "__setattr__" = some (some (.builtin "object.__setattr__"))
  ga : findIn K (.ref C) "__getattribute__" = some (some (.builtin "BaseException.__getattribute__"))
  gg : findIn K (.ref C) "__getattr__" = some none
  noF : findIn K (.ref C) f = some none
  kC : keepIn K (.ref C) = true
  exC : subIn K (.ref C) (.type "BaseException") = some true
  veC : subIn K (.ref C) (.type "ValueError") = some true
  tyC : typeIn K (.ref C) = some (.type "type")
  hdC : hasDictIn K C = true
  op : nsIn K cStatics "thirdparty.any" = some none
  init : ∃ (fI : Addr), findIn K (.ref C) "__init__" = some (some (.ref fI)) ∧ typeIn K (.ref fI) = some (.type "function") ∧
    ∃ (qual m : Str) (oc : Value) (od : Option Addr) (kV doc pm : Value) (an : Option Addr) (cda cc : Addr) (ct : Value) (osl : Array (Option Value)) (p1 p2 q1 q2 q3 q4 q5 q6 q7 q8 q9 q10 : Pos)
      (ccl : Value) (cdd : Option Addr) (vs : Array Value) (ccs : Array (Option Value)) (tf : Tok) (cl : Value) (cld : Option Addr) (csl : Array (Option Value)),
      K.lookup fI = some ⟨oc, od, .func (ksFn "__init__" qual (xA f p1 p2) (xB f m q1 q2 q3 q4 q5 q6 q7 q8 q9 q10) (xS f) .none kV doc pm an (.ref cda) ct cc), osl⟩ ∧ codeIn K (.ref cda) qual = true ∧
      K.lookup cda = some ⟨ccl, cdd, .fields vs, ccs⟩ ∧ vs[2]? = some (.str (P.main.file : Str) tf) ∧ K.lookup cc = some ⟨cl, cld, .cell (some (.ref C)), csl⟩ ∧ (q3.endLine == q5.line) = true
  bd : ∀ (fd : FuncData) (p1 p2 : Pos), fd.params = xA f p1 p2 → fd.defaults = .none → ∀ (u1 u2 : Value), bindArgs fd ⟨[u1, u2], []⟩ = pure [(("self" : Str), u1), (f, u2)]
  top : (P.main.scope.names.lookup ("super" : Str)).isSome = false
section
variable {f : Str} (F : FOk f)
include F
theorem look_self : (xS f).names.lookup ("self" : Str) = some .local := by simp [xS, List.lookup]
theorem look_f : (xS f).names.lookup f = some .local := by
  have h1 : (f == PySem.Str.ofString "self") = false := by simpa using F.ns
  simp [xS, List.lookup, h1]
theorem look_cls : (xS f).names.lookup ("__class__" : Str) = some .free := by
  have h1 : (("__class__" : Str) == f) = false := by simpa using (Ne.symm F.nc)
  have h2 : (("__class__" : Str) == PySem.Str.ofString "self") = false := by decide
  simp [xS, List.lookup, h1, h2]
theorem look_sup : (xS f).names.lookup ("super" : Str) = some .globalImplicit := by
  have h1 : (("super" : Str) == f) = false := by simpa using (Ne.symm F.nu)
  have h2 : (("super" : Str) == PySem.Str.ofString "self") = false := by decide
  have h3 : (("super" : Str) == PySem.Str.ofString "__class__") = false := by decide
  simp [xS, List.lookup, h1, h2, h3]
end
section
variable {prog : Program} {w : World} {A : Around} {E : Value → Shared → Prop} {h : Heap} {g : Array GenState} {d : Drawn} {t : Nat} {os : OsState}
variable {nm q : Str} {C N : Addr} {bs bm : List Value} {hdct : Bool} {sn : List Str} {sub : List Value} {ab : Bool} {col : Option Bool} {dd : Option Addr} {k0 k1 k2 k3 k5 : Option Value}
theorem boot_super : bootBuiltins ("super" : Str) = some (.type "super") := by first | boot_by_name | kernel_rfl
/-- super().__init__(..) called -/
theorem call_mw {u e t0 : Addr} {rest : List Value} {Q : Value → Shared → Prop}
    (hC : h.get? C = some (excClassObj nm q C N bs bm hdct sn sub ab col dd k0 k1 k2 k3 k5 "ValueError.__new__")) (he : h.get? e = some (excO C t0)) (hu : h.get? u = some (kxs_mw "ValueError.__init__" e)) (hrest : rest.length ≤ sizeLine)
    (hq : ∀ h' t1, (∀ b o, b ≠ e → h.get? b = some o → h'.get? b = some o) → h'.get? e = some (excO C t1) → Q .none ⟨h', g, d, t, os⟩) :
    wpAny (model prog w) A (call (.ref u) rest) Q E ⟨h, g, d, t, os⟩ := by
  refine wpAny_call (codeAny_of_tree ?_)
  show wpAny _ A.in1 (callAny (.ref u) ⟨rest, []⟩) _ _ _
  simp only [callAny]
  refine wpAny_bind (wpAny_load hu ?_)
  simp only [kxs_mw, show (Value.type "method-wrapper" == Value.type "method" || Value.type "method-wrapper" == Value.type "builtin_function_or_method" || Value.type "method-wrapper" == Value.type "method-wrapper") = true by decide, if_true]
  refine KFB.if_so (by decide) ?_
  refine wpAny_bind (ESX.check_bound F.excBase_ValueError hC he rfl ?_)
  refine wpAny_bind (wpAny_pure (wpAny_pure ?_))
  refine ⟨Code.quiet_builtin _ (by decide +kernel), codeAny_builtin F.excBase_ValueError.initEntry ?_⟩
  rw [Around.under_plainId F.excBase_ValueError.init.plain _]
  wp_walk
  refine hq _ h.objs.size (fun b o hb ho => ?_) ?_
  · rw [Heap.get?_update_other _ _ (Ne.symm hb)]
    exact Heap.get?_push_of_some _ ho
  · rw [Heap.get?_update_self _ (Heap.get?_push_of_some _ he) rfl]
    rfl
end
theorem he_sup {env : Env} {m : Str} {q1 q2 q3 q4 q5 : Pos} (hp : (q3.endLine == q5.line) = true) :
    eval (.Call (.Attribute (.Call (.Name "super" q1) [] [] q2) "__init__" q3) [.Constant (.str m) 0 q4] [] q5) env = (do
      let ov ← attributeBase (.Call (.Name "super" q1) [] [] q2) "__init__" env (eval (.Call (.Name "super" q1) [] [] q2) env)
      standAt q3.atName
      let (f, first) ← holding [ov] (getMethod ov "__init__" (do return (← importBound (.Call (.Name "super" q1) [] [] q2) env).getD true))
      callWith q5 f first (backTo q5 (starEach [.Constant (.str m) 0 q4] env)) []) := by
  rw [arm_eval_Call]
  unfold methodCall methodCallPos
  simp only [hp, Bool.or_true, if_true]
  rfl
/-- what __init__ leaves of a fresh exception at x -/
structure InitEnd (h h' : Heap) (x C dx t1 : Addr) (f : Str) (v : Value) : Prop where
  keep : ∀ b o, b ≠ x → h.get? b = some o → h'.get? b = some o
  obj : h'.get? x = some { cls := .ref C, dict := some dx, data := .fields #[.ref t1, .none, .none, .none, .bool false, .none] }
  dbig : h.objs.size ≤ dx
  dne : dx ≠ x
  ns : h'.Ns1 dx (fun y => if y = f then some v else none)
/-- a made exception -/
structure OwnMade (h h' : Heap) (e C d : Addr) (f : Str) (v : Value) : Prop where
  keep : ∀ b o, h.get? b = some o → h'.get? b = some o
  new : h.objs.size ≤ e
  obj : ∃ oe vs, h'.get? e = some oe ∧ oe.cls = .ref C ∧ oe.dict = some d ∧ oe.data = .fields vs ∧ vs[1]? = some .none
  dbig : h.objs.size ≤ d
  dne : d ≠ e
  ns : h'.Ns1 d (fun y => if y = f then some v else none)
section
variable {prog : Program} {w : World} {A : Around} {E : Value → Shared → Prop} {R : Result → Shared → Prop} {s : Shared} {K : Frag} {mg mb : Str → Option Value} {x0 f : Str} {C : Addr}
theorem one_size (v : Value) : [v].length ≤ sizeLine := by
  rw [sizeLine_eq]
  exact (by decide : 1 ≤ 16777216)
theorem fx_init (T : XC K prog x0 f C) {fI : Addr} (hfI : findIn K (.ref C) "__init__" = some (some (.ref fI))) {x t0 : Addr} {v : Value} (X : K.In s.heap) (G : s.heap.Ns mainGlobals mg) (hsu : mg "super" = none) (B : s.heap.Ns builtinsNs mb) (hsb : mb "super" = bootBuiltins "super")
    (hlim : s.heap.NoLimit) (hx : s.heap.get? x = some (excO C t0)) (hnx : K.lookup x = none) (hroom : A.depth < recursionLimit)
    (hq : ∀ h' tk dx t1, InitEnd s.heap h' x C dx t1 f v → R (.ok (.ret .none)) { s with heap := h', toks := tk }) :
    codeAny (model prog w) A (.call (.ref fI) ⟨[.ref x, v], []⟩) R s := by
  obtain ⟨fI', e1, htI, qual, m, oc, od, kV, doc, pm, an, cda, cc, ct, osl, p1, p2, q1, q2, q3, q4, q5, q6, q7, q8, q9, q10, ccl, cdd, vs, ccs, tf, cl, cld, csl, ho, hcd, hcode, hvs, hcell, hps⟩ := T.init
  rw [hfI] at e1
  cases e1
  obtain ⟨nm, q, N, bs, bm, sn, sub, ab, col, dd, k0, k1, k2, k3, k5, hC, hbm, hal⟩ := T.cls
  have hcl : clsIn K C = some { name := nm, bases := bs, mro := .ref C :: bm, ns := N, qualname := q, hasDict := true, slotNames := sn, subclasses := sub, abstract := ab, collection := col, hasDel := false } := by unfold clsIn; rw [hC] <;> rfl
  refine ks_codeAny_call_defAt (fd := ksFn "__init__" qual (xA f p1 p2) (xB f m q1 q2 q3 q4 q5 q6 q7 q8 q9 q10) (xS f) .none kV doc pm an (.ref cda) ct cc) (body := xB f m q1 q2 q3 q4 q5 q6 q7 q8 q9 q10) (binds := [("self", .ref x), (f, v)]) hroom (X _ _ ho) rfl hlim (codeRec_of X hcd) rfl
    (BindsTo.of_eq (T.bd _ p1 p2 rfl rfl _ _)) ?_ ?_ (fun h₁ hns k => ?_)
  · intro y hy
    simp only [xS, List.mem_cons, List.not_mem_nil, or_false] at hy
    rcases hy with rfl | rfl | rfl | rfl <;> simp
  · intro y hy
    simp only [List.mem_cons, List.not_mem_nil, or_false] at hy
    rcases hy with rfl | rfl
    · exact look_self T.fo
    · exact look_f T.fo
  · have X1 : K.In h₁ := X.keeps k
    have hx1 := k _ _ hx
    have hC1 := X1 _ _ hC
    refine ks_wpAt_execs_cons (ks_wpAt_Expr_any (ks_wpAt_MethodCall ?_ (he_sup hps)))
    refine ks_wpAt_super_base (look_sup T.fo) (look_cls T.fo) (by decide) rfl (X1 _ _ ho) rfl rfl rfl (X1 _ _ hcode) rfl hvs (by simp) T.top ?_
    refine ks_loadName_global rfl (look_sup T.fo) (loadGlobal_builtin (G.keeps k) hsu (B.keeps k) (hsb.trans boot_super) ⟨rfl, ?_⟩)
    refine wpAny_loadName_free rfl (look_cls T.fo) rfl ⟨_, X1 _ _ hcell, rfl⟩ ?_
    refine wpAny_loadName_local rfl (look_self T.fo) hns (v := .ref x) ?_ ?_
    · have h1 : (("self" : Str) == f) = false := by simpa using (Ne.symm T.fo.ns)
      simp [List.lookup, h1]
    refine ks_wpAny_isType_cls hC1 rfl ⟨rfl, ?_⟩
    have hsub : mroIn K C (.ref C) = some true := by
      unfold mroIn
      rw [hcl]
      simp
    refine ks_wpAny_call_super hC1 rfl hx1 rfl (fun c e => by cases e) (looks_mroIn X1 hsub) (fun h2 hso k2 => ?_)
    have X2 : K.In h2 := X1.keeps k2
    have hx2 := k2 _ _ hx1
    have hxC : x ≠ C := fun e => by
      rw [e, hC1] at hx1
      cases hx1
    have I2 : InstAt h2 x (excO C t0) C none := ⟨hx2, rfl, rfl, trivial⟩
    refine kxs_getMethod kxs_ValueError hso (looks_opaque X2 T.op) (l₀ := .ref C :: bm) ?_ (ESX.drop_own C bm) X2 hal (I2.type.andThen (looks_subIn X2 T.veC)) hxC (by decide) ?_
    · exact fun A Q E s k q => wpAny_bind ((looks_clsIn X2 hcl) A _ E s k (wpAny_pure q))
    have kp : ∀ b o, h2.get? b = some o → (h2.push (kxs_mw "ValueError.__init__" x)).get? b = some o := fun b o e => Heap.get?_push_of_some _ e
    have hu : (h2.push (kxs_mw "ValueError.__init__" x)).get? h2.objs.size = some (kxs_mw "ValueError.__init__" x) := Heap.get?_push_at rfl rfl
    refine kxs_callWith (i := "ValueError.__init__") (x := x) rfl (evalArgs_plain (spliced_cons (Constant_str (k := 0) (pos := q4) (spliced_nil ⟨hu, ?_⟩))))
    refine call_mw (kp _ _ (X2 _ _ hC)) (kp _ _ hx2) hu (one_size _) (fun h3 t1 k3 hx3 => ?_)
    have kk : ∀ b o, b ≠ x → h₁.get? b = some o → h3.get? b = some o := fun b o hb e => k3 b o hb (kp _ _ (k2 _ _ e))
    have X3 : K.In h3 := fun a o e => kk a o (fun z => by rw [z, hnx] at e; cases e) (X1 a o e)
    have nL : s.heap.objs.size ≠ x := Nat.ne_of_gt (Heap.lt_size hx)
    have hns3 : h3.Ns s.heap.objs.size (fun y => [(("self" : Str), Value.ref x), (f, v)].reverse.lookup y) := by
      obtain ⟨oL, es, ep, hL, r⟩ := hns
      exact ⟨oL, es, ep, kk _ _ nL hL, r⟩
    have hfs : (f == ("self" : Str)) = false := by simpa using T.fo.ns
    have hsf : (("self" : Str) == f) = false := by simpa using (Ne.symm T.fo.ns)
    show PySem.wpAt _ _ _ (execs _ _) _ _ _
    refine ks_wpAt_execs_cons (ks_wpAt_Assign_Attr (PySem.wpAt_of_wpAny ?_))
    refine wpAny_Name (wpAny_loadName_local rfl (look_f T.fo) hns3 (v := v) (by simp [List.lookup]) ?_) T.fo.nd
    refine wpAny_Name (wpAny_loadName_local rfl (look_self T.fo) hns3 (v := .ref x) (by simp [List.lookup, hsf]) ?_) (by decide)
    refine set_plain X3 (ox := excO C t1) (od := none) ⟨hx3, rfl, rfl, trivial⟩ T.sa ?_
    refine exc_osa X3 hx3 hcl (show refsVE (.ref C :: bm) = true from hbm) rfl T.noF (fun h4 tk4 dx k4 dn dne hx4 hn4 => ?_)
    show PySem.wpAt _ _ _ (execs _ _) _ _ _
    refine PySem.wpAt_of_wpAny (wpAny_execs_nil (hq h4 tk4 dx t1 ⟨fun b o hb e => k4 b o hb (kk b o hb (k b o e)), hx4, ?_, dne, hn4⟩))
    exact Nat.le_of_lt (Nat.lt_of_lt_of_le (show s.heap.objs.size < h3.objs.size from hns3.lt) dn)
theorem fx_made (T : XC K prog x0 f C) {v : Value} (X : K.In s.heap) (G : s.heap.Ns mainGlobals mg) (hsu : mg "super" = none) (B : s.heap.Ns builtinsNs mb) (hsb : mb "super" = bootBuiltins "super") (hlim : s.heap.NoLimit) (hroom : A.depth + 1 < recursionLimit)
    (hq : ∀ h' tk e d, OwnMade s.heap h' e C d f v → R (.ok (.ret (.ref e))) { s with heap := h', toks := tk }) :
    codeAny (model prog w) A (.call (.ref C) ⟨[v], []⟩) R s := by
  obtain ⟨fI, hfI, htI, _⟩ := T.init
  obtain ⟨nm, q, N, bs, bm, sn, sub, ab, col, dd, k0, k1, k2, k3, k5, hC, hbm, hal⟩ := T.cls
  obtain ⟨hp, g, dr, tk, os⟩ := s
  have k : ∀ b o, hp.get? b = some o → ((hp.push (kdv_tup [v])).push (excO C hp.objs.size)).get? b = some o := fun b o e => Heap.get?_push_of_some _ (Heap.get?_push_of_some _ e)
  have hget : ((hp.push (kdv_tup [v])).push (excO C hp.objs.size)).get? (hp.objs.size + 1) = some (excO C hp.objs.size) := by heap_get
  have hnx : K.lookup (hp.objs.size + 1) = none := by
    cases e : K.lookup (hp.objs.size + 1) with
    | none => rfl
    | some o =>
      have z : hp.get? (hp.objs.size + 1) = some o := X _ _ e
      exact absurd (Nat.lt_of_succ_lt (Heap.lt_size z)) (Nat.lt_irrefl _)
  refine call_own F.excBase_ValueError (fun X => refsVE_contains X bm hbm) (X _ _ hC) (looks_findIn X hfI) (fun self => bind_fn X self htI) (one_size v) ?_
  refine fx_init (s := ⟨(hp.push (kdv_tup [v])).push (excO C hp.objs.size), g, dr, tk, os⟩) T hfI (X.keeps k) (G.keeps k) hsu (B.keeps k) hsb (hlim.keeps k) hget hnx ?_ fun h' tk' dx t1 ⟨k', hx, dn, dne, hns⟩ => ?_
  · show A.depth + 1 < recursionLimit
    exact hroom
  · have old : ∀ b o, hp.get? b = some o → h'.get? b = some o := fun b o e => k' b o (Nat.ne_of_lt (Nat.lt_succ_of_lt (Heap.lt_size e))) (k b o e)
    have z : hp.objs.size + 1 + 1 ≤ dx := by
      first
        | (simpa only [Heap.size_push] using dn)
        | exact dn
        | (have q := dn; rw [Heap.size_push, Heap.size_push] at q; exact q)
    exact ⟨rfl, hq h' tk' (hp.objs.size + 1) dx ⟨old, Nat.le_succ _, ⟨_, _, hx, rfl, rfl, rfl, rfl⟩, Nat.le_trans (Nat.le_trans (Nat.le_succ _) (Nat.le_succ _)) z, dne, hns⟩⟩
end
end Fx
namespace Fx
open PySem PySem.Spec PyProof.Rows L2
theorem relO_fx {f : Str} {v : V} {v' : Value} (r : RelV v v') (y : Str) : RelO (List.lookup y [(f, v)]) (if y = f then some v' else none) := by
  by_cases hw : y = f
  · subst hw
    rw [if_pos rfl]
    have q : List.lookup y [(y, v)] = some v := by simp [List.lookup]
    rw [q]
    exact r
  · rw [if_neg hw]
    have qw : (y == f) = false := by simpa using hw
    have q2 : List.lookup y [(f, v)] = none := by simp [List.lookup, qw]
    rw [q2]
    trivial
section
variable {X : Cx} {C : Addr} {x0 f : Str}
/-- C(e) -/
def tMkFx (C : Addr) (f : Str) (ta : TA) : L2.St → Hp → XK → Prop := fun σ H Q => ta σ H fun vs H1 => ∃ v, vs = [v] ∧ ∀ d, H1 d = none → Q (.ref C) (some d) (upd H1 d (.xd [(f, v)]))
theorem pmk_fx {a : Expr} {ta : TA} {p pos : Pos} {k : Nat} (T : XC X.K X.prog x0 f C) (gC : X.mg x0 = some (.ref C)) (hsu : X.mg "super" = none) (hr : Room k X.A) (ha : PA X [a] ta) (hg : Gl X x0 := by rfl) (hdb : (x0 == ("__debug__" : Str)) = false := by decide)
    (he : starEach (a :: []) X.env = (false, eval a X.env) :: starEach [] X.env := by rfl) (hpl : (backTo pos (starEach [] X.env)).any (·.1) = false := by rfl) :
    PMk X (.Call (.Name x0 p) [a] [] pos) (tMkFx C f ta) := by
  intro pins s σ H Q I h
  refine wpAny_Call_Name_kw (ld_glob I hg gC ?_ hdb)
  refine PySem.W.callWith_K (h₀ := X.base) I.ok.mod.kin T.kC (thn (ha.run pos pins s σ H _ I h) fun us s1 hh => ?_) he hpl
  obtain ⟨vs, H1, I1, r1, v, ev, q1⟩ := hh
  subst ev
  refine ⟨I1.kIn, ?_⟩
  cases r1 with
  | cons rv rn =>
    rename_i v' us'
    cases rn
    show wpAny _ _ (call (.ref C) [v']) _ _ _
    have hlim := I1.nolimit
    obtain ⟨mb, hb1, hb2⟩ := I1.mod.blt
    have G := I1.mod.glob.keeps I1.bk
    have B := hb1.keeps I1.bk
    obtain ⟨hp, g, dr, tk, os⟩ := s1
    refine wpAny_call (fx_made T I1.kIn G hsu B (hb2 _ (by decide)) hlim (by have := hr.dp; omega) fun h' tk' e d M => ?_)
    show MkP X pins σ Q (.ref e) ⟨h', g, dr, tk', os⟩
    obtain ⟨oe, fv, hoe, hc, hd, hdat, h1⟩ := M.obj
    have hns := M.ns
    obtain ⟨G', g1, g2⟩ := restrict h' fun b => decide (b ≠ e)
    have gk : ∀ b, b ≠ e → G'.get? b = h'.get? b := fun b hb => g1 b (decide_eq_true hb)
    have ge : G'.get? e = none := g2 e (by simp)
    have old : ∀ b o, hp.get? b = some o → G'.get? b = some o := fun b o q => (gk b (Nat.ne_of_lt (Nat.lt_of_lt_of_le (Heap.lt_size q) M.new))).trans (M.keep b o q)
    have ob : ObjOk X.prog X.w (upd H1 d (.xd [(f, v)])) G' d (.xd [(f, v)]) :=
      ⟨_, hns.at (fun o q => (gk d M.dne).trans q), fun y => relO_fx rv y⟩
    have J : Inv X pins σ (upd H1 d (.xd [(f, v)])) ⟨G', g, dr, tk', os⟩ := I1.laid (t' := tk') old M.dbig ob
    refine ⟨e, oe, fv, ⟨G', g, dr, tk', os⟩, _, .ref C, some d, rfl, J, fun b o q => ?_, ge, hoe, ⟨hc, hd⟩, hdat, h1, ?_, rfl, I1.bare, raises_own T.exC T.tyC, q1 d (I1.hok.fresh M.dbig)⟩
    · by_cases hb : b = e
      · have q' : G'.get? b = some o := q
        rw [hb, ge] at q'; cases q'
      · exact (gk b hb).symm.trans q
    · rw [upd_ne (Ne.symm M.dne)]
      exact I1.hok.fresh M.new
/-- raise C(e) -/
def tRaiseFx (C : Addr) (f : Str) (W : WX) (ta : TA) : TS := fun _ σ H => tMkFx C f ta σ H fun cls d H' => W cls d σ H'
theorem ps_raiseFx {a : Expr} {ta : TA} {W : WX} {p pos pos2 : Pos} {k : Nat} (hc : X.calm = true) (T : XC X.K X.prog x0 f C) (gC : X.mg x0 = some (.ref C)) (hsu : X.mg "super" = none) (hr : Room k X.A) (tk : Takes X W) (ha : PA X [a] ta) (hg : Gl X x0 := by rfl) (hdb : (x0 == ("__debug__" : Str)) = false := by decide)
    (he : starEach (a :: []) X.env = (false, eval a X.env) :: starEach [] X.env := by rfl) (hpl : (backTo pos (starEach [] X.env)).any (·.1) = false := by rfl) :
    PS X (.Raise (some (.Call (.Name x0 p) [a] [] pos)) none pos2) (tRaiseFx C f W ta) := ps_raise hc tk (pmk_fx T gC hsu hr ha hg hdb he hpl)
/-- e.f, e the exception that the suite holds -/
theorem XC.xf (T : XC X.K X.prog x0 f C) : XfC X.K C := ⟨T.ga, T.gg, T.exC, T.hdC⟩
end
end Fx
namespace PySem.W
open PySem PySem.Spec PySem.Calls PyProof.Rows
section
variable {prog : Program} {w : World} {A : Around} {E : Value → Shared → Prop} {s : Shared} {K : Frag} {x D : Addr} {ox : Obj} {od : Option Obj}
theorem fx_findObj {C : Addr} {name : Str} {a g : Value} (hc : (clsIn K C).isSome = true) (ha : findIn K (.ref C) name = some (some a)) (hg : specialIn K a "__get__" = some (some g)) (ht : takesIn K a = some true) : findObj K C od name = some (.bind g a) := by
  obtain ⟨cd, hc⟩ := Option.isSome_iff_exists.mp hc
  unfold findObj
  rw [hc, Option.bind_some, ha, Option.bind_some]
  simp [hg, ht]
theorem fx_class {Q : Option Value → Shared → Prop} (hga : findIn K (.ref D) "__getattribute__" = some (some (.builtin "BaseException.__getattribute__"))) (hgt : findIn K (.ref D) "__getattr__" = some none) (hsub : subIn K (.ref D) (.type "BaseException") = some true)
    (hdct : hasDictIn K D = true) (ha : findIn K (.ref D) "__class__" = some (some (.builtin "object.__class__")))
    (hn : specialIn K (.builtin "object.__class__") "__get__" = some (some (.builtin "getset_descriptor.__get__"))) (htk : takesIn K (.builtin "object.__class__") = some true) (hm : mroIn K D (.type "object") = some true)
    (X : K.In s.heap) (I : InstAt s.heap x ox D od) (h : Q (some (.ref D)) { s with toks := s.toks + 1 }) : wpAny (model prog w) A (getAttr? (.ref x) "__class__") Q E s := by
  have hf : findObj K D od "__class__" = some (.bind (.builtin "getset_descriptor.__get__") (.builtin "object.__class__")) := fx_findObj (by obtain ⟨cd, hc, _⟩ := any_some hdct; rw [hc]; rfl) ha hn htk
  obtain ⟨hp, g, d, t, os⟩ := s
  have L0 := I.type (M := model prog w)
  have L1 := looks_findIn (M := model prog w) X hga
  have L2 := looks_findIn (M := model prog w) X hgt
  have L3 := looks_find (M := model prog w) X I hf
  have sub : Looks (model prog w) hp (isInstance (.ref x) (.type "BaseException")) true := L0.andThen (looks_subIn X hsub)
  have hx0 : (false && onTheHeap (Value.builtin "BaseException.__getattribute__")) = false := rfl
  have hx2 : (Value.builtin "BaseException.__getattribute__" == Value.builtin "object.__getattribute__") = false := by decide +kernel
  have hx1 : (onTheHeap (Value.ref D) && Value.builtin "BaseException.__getattribute__" == Value.builtin "object.__getattribute__") = false := by rw [hx2]; rfl
  unfold getAttr? getAttrBy? getAttrBy
  refine wpAny_bind (wpAny_mkText (wpAny_bind (wpAny_attempt (wpAny_holding (wpAny_bind (L0.at (wpAny_bind (L1.at ?_))))))))
  show wpAny _ _ (if (onTheHeap (Value.ref D) && Value.builtin "BaseException.__getattribute__" == Value.builtin "object.__getattribute__") = true then _ else _) _ _ _
  rw [hx1, if_neg Bool.false_ne_true]
  unfold getAttrByItsOwn hookBefore
  refine wpAny_bind ?_
  rw [if_pos (show onTheHeap (Value.ref D) = true from rfl)]
  refine L2.at ?_
  refine wpAny_bind (wpAny_attempt (wpAny_holding ?_))
  unfold callGetattribute
  rw [hx0, if_neg Bool.false_ne_true]
  unfold boundAndCalled
  rw [PySem.F.excAttr_ValueError.ga.bind (.ref x)]
  refine wpAny_bind (wpAny_pure ?_)
  show wpAny _ _ (call (.builtin "BaseException.__getattribute__") [.ref x, .str "__class__" t]) _ _ _
  refine wpAny_call (codeAny_call_builtin PySem.F.excAttr_ValueError.ga.plain PySem.F.entry_bexc_ga ?_)
  refine @check_slot (model prog w) _ _ ⟨hp, g, d, t + 1, os⟩ "BaseException.__getattribute__" "BaseException" "__getattribute__" (.ref x) [.str "__class__" t] [] _ (by decide +kernel) (by decide +kernel) sub (PySem.F.args_bexc_ga (.ref x) (.str "__class__" t)) ?_
  unfold Builtin.«object.__getattribute__»
  refine wpAny_bind (wpAny_of_eq (a := ((Value.ref x : Value), [Value.str "__class__" t])) (by first | rfl | (simp only [slotArgs]; rfl)) ?_)
  refine wpAny_bind (wpAny_pure (wpAny_bind (L0.at (wpAny_bind (L3.at ?_)))))
  show wpAny _ _ (holding [Value.builtin "object.__class__"] (call (.builtin "getset_descriptor.__get__") [.builtin "object.__class__", .ref x, .ref D]) >>= ret) _ _ _
  refine wpAny_bind (wpAny_holding (wpAny_call (class_get (s := ⟨hp, g, d, t + 1, os⟩) (ox := ox) (od := od) X I hm ?_)))
  refine wpAny_pure ?_
  show wpAny _ _ (handedOut (.ref D)) _ _ _
  rw [handedOut_of (v := .ref D) rfl]
  first
    | exact wpAny_pure (wpAny_pure h)
    | exact wpAny_pure h
    | exact wpAny_pure (wpAny_bind (wpAny_pure (wpAny_pure h)))
theorem fx_kitx (hga : findIn K (.ref D) "__getattribute__" = some (some (.builtin "BaseException.__getattribute__"))) (hgt : findIn K (.ref D) "__getattr__" = some none) (hsub : subIn K (.ref D) (.type "BaseException") = some true) (hdct : hasDictIn K D = true) (ha : findIn K (.ref D) "__class__" = some (some (.builtin "object.__class__")))
    (hn : specialIn K (.builtin "object.__class__") "__get__" = some (some (.builtin "getset_descriptor.__get__"))) (htk : takesIn K (.builtin "object.__class__") = some true) (hm : mroIn K D (.type "object") = some true) :
    KitX K (.ref x) (.ref D) (fun h => ∃ od, InstAt h x ox D od) where
  ty := fun _ _ _ ⟨_, I⟩ => I.type
  it := fun _ _ X _ => by
    obtain ⟨cdD, hcD, _⟩ := any_some hdct
    unfold clsIn at hcD
    split at hcD
    · rename_i c' d' cd' sl' ho
      intro A' Q' E' s' k q
      unfold isType loadHead
      exact wpAny_bind (wpAny_loadPart (k _ _ (X _ _ ho)) (wpAny_pure q))
    · cases hcD
  ne := fun h tp dd its n sl X htp => by
    obtain ⟨cdD, hcD, _⟩ := any_some hdct
    refine Bool.eq_false_iff.mpr fun q => ?_
    have e : D = tp := Value.ref.inj (beq_iff_eq.mp q)
    subst e
    unfold clsIn at hcD
    split at hcD
    · rename_i c' d' cd' sl' ho
      have z := (X _ _ ho).symm.trans htp
      cases z
    · cases hcD
  ca := fun X ⟨_, I⟩ k => fx_class hga hgt hsub hdct ha hn htk hm X I k
end
end PySem.W
namespace Fx
open PySem PySem.Spec PyProof.Rows L2
/-- isinstance(e, c), e the exception that the suite holds, with its dict -/
theorem call_isX {X : Cx} {a D dd : Addr} {oe : Obj} {pn : List (Addr × Obj)} {fs : List (Str × V)} (C : ExcC X.K D) (hz : Zc (.ref D) (some dd) oe) (hf : ∃ vs, oe.data = .fields vs) :
    CallR (X.suite a ((a, oe) :: pn)) (.builtin "isinstance") (fun xs H Q => H dd = some (.xd fs) ∧ rIsE X.K D a xs H Q) := by
  intro pins s σ H xs us Q I r h
  obtain ⟨hdd, c, cv, b, rfl, hcv, e, q⟩ := h
  cases r with
  | cons rx rr =>
    cases rr with
    | cons rt rr =>
      cases rr
      cases rx
      have ec := hcv _ rt
      subst ec
      obtain ⟨hget, _⟩ := I.pin (a, oe) (List.mem_append.mpr (.inl List.mem_cons_self))
      obtain ⟨vs, hv⟩ := hf
      have hx : ObjOk X.prog X.w H s.heap dd (.xd fs) := I.hok dd _ hdd
      obtain ⟨mA, ⟨od, es, ep, ho, hrest⟩, hr⟩ := hx
      have J : PySem.W.InstAt s.heap a oe D (some od) := ⟨hget, hz.1, by unfold PySem.W.notCls; rw [hv] <;> rfl, by rw [hz.2]; exact ho⟩
      exact PySem.W.kia_one (PySem.W.fx_kitx C.hg C.hk C.hs C.hd C.ha C.hn C.ht C.hm) I.kIn ⟨_, J⟩ e (fun z => nomatch z) fun tk => ⟨.bl b, H, I.kept (t' := tk) fun _ _ z => z, rfl, q⟩
end Fx
namespace Fx
open PySem PySem.Spec PyProof.Rows L2
def clsVal : V → Option Value
  | .ref C => some (.ref C)
  | .ty n => some (.type n)
  | _ => none
/-- isinstance(e, c) in an except suite, e the exception that it holds: its class cls, its dict d -/
def rIsY (K : PySem.W.Frag) (a : Addr) (cls : Value) (d : Option Addr) : List V → Hp → VK → Prop := fun xs H Q => ∃ c, xs = [.ref a, c] ∧ ∃ D, cls = .ref D ∧ ∃ dd, d = some dd ∧ (∃ fs, H dd = some (.xd fs)) ∧ ExcC K D ∧ ∃ cv, clsVal c = some cv ∧ ∃ b, PySem.W.kitOne K (.ref D) cv = some b ∧ Q (.bl b) H
theorem call_isY {X : Cx} {a : Addr} {oe : Obj} {cls : Value} {d : Option Addr} {pn : List (Addr × Obj)} (hz : Zc cls d oe) (hf : ∃ vs, oe.data = .fields vs) :
    CallR (X.suite a ((a, oe) :: pn)) (.builtin "isinstance") (rIsY X.K a cls d) := by
  intro pins s σ H xs us Q I r h
  obtain ⟨c, e1, D, e2, dd, e3, ⟨fs, hfs⟩, C, cv, hcv, b, hb, q⟩ := h
  subst e1 e2 e3
  refine call_isX (fs := fs) C hz hf pins s σ H _ us Q I r ⟨hfs, c, cv, b, rfl, fun u ru => ?_, hb, q⟩
  cases c with
  | ref C2 => cases hcv; exact ru
  | ty n => cases hcv; exact ru
  | _ => cases hcv
theorem XC.xfc {K : PySem.W.Frag} {P : Program} {x f : Str} {C : Addr} (T : XC K P x f C) : XfC K C := ⟨T.ga, T.gg, T.exC, T.hdC⟩
end Fx
/-! The head's facts: defs, errors' classes, any further facts as tests of the written part -/
namespace FxH
open PySem PySem.Spec PyProof.Rows L2 He
def asR (g : Addr → Option Obj) : Nat → List Addr
  | 0 => [mainGlobals, cStatics]
  | n + 1 => growD g (asR g n)
abbrev Fct := PySem.W.Frag → Bool
/-- an error's class: its name, its field, its __init__ -/
structure InD where
  x : Str
  f : Str
  qual : Str
  st : Stmt
abbrev FnX : Type := Option (Str × Str × Arguments × FuncBody × Scope × Addr × List Str × Value × Addr)
def fnXo (K : PySem.W.Frag) (x : Str) : FnX := match K.lookup (ma K (ga K x) "__init__") with
  | some ⟨_, _, .func fd, _⟩ => some (fd.name, fd.qualname, fd.params, fd.body, fd.scope, fd.globals, fd.closure.map (·.1), fd.defaults, fd.builtins)
  | _ => none
def InD.val (d : InD) : FnX := some ("__init__", d.qual, defArgs d.st, .stmts (defBody d.st), defScope d.st, mainGlobals, ["__class__"], .none, builtinsNs)
def clsB (K : PySem.W.Frag) (C : Addr) : Bool := match K.lookup C with
  | some ⟨.type "type", _, .cls cd, sl⟩ => (match cd.mro, sl.toList with
    | .ref C' :: bm, [_, _, _, _, some (.builtin n), _] => C' == C && (n == "ValueError.__new__" && (!cd.hasDel && (cd.hasDict && (PySem.HandSPX.refsVE bm && decide (PySem.W.alongIn K "__init__" bm = some (some (.builtin "ValueError.__init__")))))))
    | _, _ => false)
  | _ => false
theorem clsB_ok {K : PySem.W.Frag} {C : Addr} (q : clsB K C = true) : ∃ nm q N bs bm sn sub ab col dd k0 k1 k2 k3 k5, K.lookup C = some (excClassObj nm q C N bs bm true sn sub ab col dd k0 k1 k2 k3 k5 "ValueError.__new__") ∧ PySem.HandSPX.refsVE bm = true ∧ PySem.W.alongIn K "__init__" bm = some (some (.builtin "ValueError.__init__")) := by
  unfold clsB at q
  split at q
  · rename_i dd cd sl ho
    split at q
    · rename_i C' bm k0 k1 k2 k3 n k5 hm hs
      simp only [Bool.and_eq_true, beq_iff_eq, Bool.not_eq_true', decide_eq_true_eq] at q
      obtain ⟨rfl, rfl, hdel, hdct, ht, hal⟩ := q
      obtain ⟨nm, bs, mro, ns, qn, hd, sn, sub, ab, col, del⟩ := cd
      dsimp only at hm hdel hdct
      subst hm hdel hdct
      have hsl : sl = #[k0, k1, k2, k3, some (.builtin "ValueError.__new__"), k5] := by
        obtain ⟨l⟩ := sl
        simp only at hs
        rw [hs]
      subst hsl
      exact ⟨nm, qn, ns, bs, bm, sn, sub, ab, col, dd, k0, k1, k2, k3, k5, ho, ht, hal⟩
    · cases q
  · cases q
/-- the cell and the code of the __init__ -/
def iniB (K : PySem.W.Frag) (C fI : Addr) (qual file : Str) : Bool := match K.lookup fI with
  | some ⟨_, _, .func fd, _⟩ => (match fd.closure, fd.code with
    | [(_, cc)], .ref cda => PySem.W.codeIn K (.ref cda) qual && ((match K.lookup cda with
        | some ⟨_, _, .fields vs, _⟩ => (match (vs[2]? : Option Value) with
          | some (Value.str n _) => decide (n = file)
          | _ => false)
        | _ => false) && (match K.lookup cc with
        | some ⟨_, _, .cell (some (.ref D)), _⟩ => decide (D = C)
        | _ => false))
    | _, _ => false)
  | _ => false
def InD.ok (file : Str) (K : PySem.W.Frag) (d : InD) : Bool :=
  let C := ga K d.x
  let fI := ma K C "__init__"
  eqO (PySem.W.nsIn K mainGlobals d.x) (some (some (.ref C))) && (clsB K C && (eqO (PySem.W.findIn K (.ref C) "__setattr__") (some (some (.builtin "object.__setattr__"))) &&
  (eqO (PySem.W.findIn K (.ref C) "__getattribute__") (some (some (.builtin "BaseException.__getattribute__"))) && (eqO (PySem.W.findIn K (.ref C) "__getattr__") (some none) && (eqO (PySem.W.findIn K (.ref C) d.f) (some none) &&
  (PySem.W.keepIn K (.ref C) && (decide (PySem.W.subIn K (.ref C) (.type "BaseException") = some true) && (decide (PySem.W.subIn K (.ref C) (.type "ValueError") = some true) && (decide (PySem.W.typeIn K (.ref C) = some (.type "type")) &&
  (PySem.W.hasDictIn K C && (eqO (PySem.W.nsIn K cStatics "thirdparty.any") (some none) && (eqO (PySem.W.findIn K (.ref C) "__init__") (some (some (.ref fI))) && (decide (PySem.W.typeIn K (.ref fI) = some (.type "function")) && iniB K C fI d.qual file)))))))))))))
/-- what isinstance asks of an error's class -/
def excB (K : PySem.W.Frag) (x : Str) : Bool :=
  let C := ga K x
  eqO (PySem.W.findIn K (.ref C) "__getattribute__") (some (some (.builtin "BaseException.__getattribute__"))) && (eqO (PySem.W.findIn K (.ref C) "__getattr__") (some none) && (decide (PySem.W.subIn K (.ref C) (.type "BaseException") = some true) &&
  (PySem.W.hasDictIn K C && (eqO (PySem.W.findIn K (.ref C) "__class__") (some (some (.builtin "object.__class__"))) && (eqO (PySem.W.specialIn K (.builtin "object.__class__") "__get__") (some (some (.builtin "getset_descriptor.__get__"))) &&
  (decide (PySem.W.takesIn K (.builtin "object.__class__") = some true) && decide (PySem.W.mroIn K C (.type "object") = some true)))))))
theorem excB_ok {K : PySem.W.Frag} {x : Str} (h : excB K x = true) : ExcC K (ga K x) := by
  obtain ⟨h1, h⟩ := ba h
  obtain ⟨h2, h⟩ := ba h
  obtain ⟨h3, h⟩ := ba h
  obtain ⟨h4, h⟩ := ba h
  obtain ⟨h5, h⟩ := ba h
  obtain ⟨h6, h⟩ := ba h
  obtain ⟨h7, h8⟩ := ba h
  exact ⟨eqO_ok h1, eqO_ok h2, of_decide_eq_true h3, h4, eqO_ok h5, eqO_ok h6, of_decide_eq_true h7, of_decide_eq_true h8⟩
/-- the class's facts, from the hook -/
theorem InD.xc {P : Program} {K : PySem.W.Frag} {d : InD} {m : Str} {p1 p2 q1 q2 q3 q4 q5 q6 q7 q8 q9 q10 : Pos} (e : fnXo K d.x = d.val) (c : d.ok (P.main.file : Str) K = true) (fo : Fx.FOk d.f)
    (hA : defArgs d.st = Fx.xA d.f p1 p2) (hB : defBody d.st = Fx.xB d.f m q1 q2 q3 q4 q5 q6 q7 q8 q9 q10) (hS : defScope d.st = Fx.xS d.f) (hp : (q3.endLine == q5.line) = true)
    (bd : ∀ (fd : FuncData) (p1 p2 : Pos), fd.params = Fx.xA d.f p1 p2 → fd.defaults = .none → ∀ (u1 u2 : Value), bindArgs fd ⟨[u1, u2], []⟩ = pure [(("self" : Str), u1), (d.f, u2)])
    (top : (P.main.scope.names.lookup ("super" : Str)).isSome = false) : Fx.XC K P d.x d.f (ga K d.x) := by
  obtain ⟨c0, c⟩ := ba c
  obtain ⟨c1, c⟩ := ba c
  obtain ⟨c2, c⟩ := ba c
  obtain ⟨c3, c⟩ := ba c
  obtain ⟨c4, c⟩ := ba c
  obtain ⟨c5, c⟩ := ba c
  obtain ⟨c6, c⟩ := ba c
  obtain ⟨c7, c⟩ := ba c
  obtain ⟨c8, c⟩ := ba c
  obtain ⟨c9, c⟩ := ba c
  obtain ⟨c10, c⟩ := ba c
  obtain ⟨c11, c⟩ := ba c
  obtain ⟨c12, c⟩ := ba c
  obtain ⟨c13, c14⟩ := ba c
  refine ⟨fo, clsB_ok c1, eqO_ok c2, eqO_ok c3, eqO_ok c4, eqO_ok c5, c6, of_decide_eq_true c7, of_decide_eq_true c8, of_decide_eq_true c9, c10, eqO_ok c11, ⟨_, eqO_ok c12, of_decide_eq_true c13, ?_⟩, bd, top⟩
  unfold iniB at c14
  unfold fnXo at e
  cases q : K.lookup (ma K (ga K d.x) "__init__") with
  | none =>
    rw [q] at c14
    cases c14
  | some o =>
    obtain ⟨oc, od, dt, osl⟩ := o
    rw [q] at c14 e
    cases dt with
    | func fd =>
      obtain ⟨n1, n2, n3, n4, n5, n6, n7, n8, n9, n10, n11, n12, n13, n14, n15⟩ := fd
      have e2 : (some (n1, n2, n3, n4, n5, n6, n7.map (·.1), n8, n15) : FnX) = some (("__init__" : Str), d.qual, defArgs d.st, FuncBody.stmts (defBody d.st), defScope d.st, mainGlobals, [("__class__" : Str)], Value.none, builtinsNs) := e
      simp only [Option.some.injEq, Prod.mk.injEq] at e2
      obtain ⟨h1, h2, h3, h4, h5, h6, h7, h8, h9⟩ := e2
      subst h1 h2 h3 h4 h5 h6 h8 h9
      dsimp only at c14
      cases n7 with
      | nil => cases h7
      | cons a n7 =>
        cases n7 with
        | cons b n7 =>
          have z := congrArg List.length h7
          simp at z
        | nil =>
          obtain ⟨nm, cc⟩ := a
          have h7' : nm = ("__class__" : Str) := by
            have z := List.cons.inj h7
            exact z.1
          subst h7'
          cases n13 with
          | ref cda =>
            dsimp only at c14
            obtain ⟨d1, d2⟩ := ba c14
            obtain ⟨d3, d4⟩ := ba d2
            split at d3
            · rename_i ccl cdd vs ccs hl
              split at d3
              · rename_i n tf hvs
                have en : n = (P.main.file : Str) := of_decide_eq_true d3
                subst en
                split at d4
                · rename_i cl cld D csl hcell
                  have eD : D = ga K d.x := of_decide_eq_true d4
                  subst eD
                  refine ⟨d.qual, m, oc, od, n9, n10, n11, n12, cda, cc, n14, osl, p1, p2, q1, q2, q3, q4, q5, q6, q7, q8, q9, q10, ccl, cdd, vs, ccs, tf, cl, cld, csl, ?_, d1, hl, hvs, hcell, hp⟩
                  rw [hA, hB, hS]
                · cases d4
              · cases d3
            · cases d3
          | _ => cases c14
    | _ => cases c14
/-! ### the Hook -/
abbrev AlX : Type := Bool × List FnW × List FnX
def obsX (file : Str) (fa : List Fct) (fn : List DefD) (fi : List InD) (K : PySem.W.Frag) : AlX := (((fa.all fun f => f K) && (fn.all fun d => d.ok K)) && (fi.all fun d => d.ok file K), fn.map (fun d => fnW K d.at_), fi.map fun d => fnXo K d.x)
def valX (fn : List DefD) (fi : List InD) : AlX := (true, fn.map DefD.val, fi.map InD.val)
def SaysX (file : Str) (fa : List Fct) (fn : List DefD) (fi : List InD) (K : PySem.W.Frag) : Prop := obsX file fa fn fi K = valX fn fi
def obsXG (n : Nat) (file : Str) (fa : List Fct) (fn : List DefD) (fi : List InD) (g : Addr → Option Obj) : AlX := obsX file fa fn fi (frG g (asR g n))
def hookX (n : Nat) (file : Str) (fa : List Fct) (fn : List DefD) (fi : List InD) : PySem.W.Hook where
  α := AlX
  obs := fun s => obsXG n file fa fn fi s.heap.get?
  val := fun _ => valX fn fi
  says := fun _ h => ∃ K : PySem.W.Frag, K.In h ∧ SaysX file fa fn fi K
  of := fun _ _ e => ⟨_, frG_in, e⟩
  keeps := fun _ _ _ ⟨K, hK, c⟩ k => ⟨K, PySem.W.Frag.In.keeps hK k, c⟩
theorem obsXG_eq {n : Nat} {file : Str} {fa : List Fct} {fn : List DefD} {fi : List InD} {g : Addr → Option Obj} {s : Shared} (h : ∀ a, g a = s.heap.get? a) : obsXG n file fa fn fi g = (hookX n file fa fn fi).obs s := by
  have e : g = s.heap.get? := funext h
  rw [e] <;> rfl
section
variable {file : Str} {fa : List Fct} {fn : List DefD} {fi : List InD} {K : PySem.W.Frag}
theorem SaysX.fact (c : SaysX file fa fn fi K) (i : Nat) {f : Fct} (h : fa[i]? = some f := by rfl) : f K = true := by
  have c1 := (ba (ba (show (((fa.all fun f => f K) && (fn.all fun d => d.ok K)) && (fi.all fun d => d.ok file K)) = true from congrArg (fun z : AlX => z.1) c)).1).1
  exact List.all_eq_true.mp c1 f (List.mem_of_getElem? h)
theorem SaysX.def_ (c : SaysX file fa fn fi K) (i : Nat) {d : DefD} (h : fn[i]? = some d := by rfl) : ∃ fd, FunD K d.name d.qual d.params d.body d.scope (d.dvs K) (d.kws K) (fAd K d.at_) fd := by
  have c2 := (ba (ba (show (((fa.all fun f => f K) && (fn.all fun d => d.ok K)) && (fi.all fun d => d.ok file K)) = true from congrArg (fun z : AlX => z.1) c)).1).2
  have e : fn.map (fun d => fnW K d.at_) = fn.map DefD.val := congrArg (fun z : AlX => z.2.1) c
  have e2 : (fn.map fun d => fnW K d.at_)[i]? = (fn.map DefD.val)[i]? := by rw [e]
  rw [List.getElem?_map, List.getElem?_map, h] at e2
  exact DefD.funD (Option.some.inj e2) (List.all_eq_true.mp c2 d (List.mem_of_getElem? h))
theorem SaysX.ini (c : SaysX file fa fn fi K) (i : Nat) {d : InD} (h : fi[i]? = some d := by rfl) : fnXo K d.x = d.val ∧ d.ok file K = true := by
  have c2 := (ba (show (((fa.all fun f => f K) && (fn.all fun d => d.ok K)) && (fi.all fun d => d.ok file K)) = true from congrArg (fun z : AlX => z.1) c)).2
  have e : fi.map (fun d => fnXo K d.x) = fi.map InD.val := congrArg (fun z : AlX => z.2.2) c
  have e2 : (fi.map fun d => fnXo K d.x)[i]? = (fi.map InD.val)[i]? := by rw [e]
  rw [List.getElem?_map, List.getElem?_map, h] at e2
  exact ⟨Option.some.inj e2, List.all_eq_true.mp c2 d (List.mem_of_getElem? h)⟩
end
end FxH
/-! Short words over the layer: a def by its name (Src), a def that keeps its promise (Cal), constants (Cst) -/
namespace Fx
open PySem PySem.Spec PyProof.Rows L2
/-- a def of the text as it stands behind the top -/
def Src (K : PySem.W.Frag) (mg : Str → Option Value) (x : Str) (st : Stmt) : Prop := ∃ f fd, mg x = some (.ref f) ∧ FunD K x x (defArgs st) (defBody st) (defScope st) [] [] f fd
/-- a def that keeps its promise -/
structure Cal (P : Program) (w : World) (K : PySem.W.Frag) (mg : Str → Option Value) (base : Heap) (CX : CXT) (k : Nat) (x : Str) (ps : List Str) (sp : Sp) : Prop where
  ex : ∃ f fd, mg x = some (.ref f) ∧ PySem.W.keepIn K (.ref f) = true ∧ Binds K fd ps [] ∧ FnOk P w K mg base CX k f fd ps sp
/-- a constant of the module -/
def Cst (mg : Str → Option Value) (x : Str) (v : V) : Prop := ∃ u, mg x = some u ∧ RelV v u
section
variable {P : Program} {w : World} {K : PySem.W.Frag} {mg : Str → Option Value} {base : Heap} {x : Str} {st : Stmt} {N ps : List Str} {k : Nat} {sp : Sp}
abbrev BindP (x : Str) (st : Stmt) (ps : List Str) : Prop := ∀ (kV doc pm : Value) (an : Option Addr) (cdv ct : Value) (us : List Value), us.length = ps.length → bindArgs (PySem.W.fnOf x x (defArgs st) (defBody st) (defScope st) .none kV doc pm an cdv ct) ⟨us, []⟩ = pure (ps.zip us)
/-- a def that lets nothing out -/
theorem Src.cal (S : Src K mg x st) (sc : FnScope N ps (defScope st)) (bn : BindP x st ps) (len : ∀ vs H Q E, sp vs H Q E → vs.length = ps.length)
    (hbody : ∀ (f : Addr) (cdv : Value) (A : Around) (outer : List Env) (s : Shared) (H : Hp) (vs : List V) (Q : VK) (E : XK), Room k (A.deeper (envOfC x (defScope st) s.heap.objs.size f cdv)) → sp vs H Q E →
      ∃ t, PSs (cxOf CX0 P w K mg base N x (defScope st) f cdv A outer s H E).nox (defBody st) t ∧ t { nx := fun _ H' => Q .non H', rt := Q } (start N vs) H) : Cal P w K mg base CX0 (k + 1) x ps sp := by
  obtain ⟨f, fd, g, F⟩ := S
  refine ⟨f, fd, g, F.kp, F.bindsN bn, F.ok sc len fun cdv A outer s H vs Q E hr hsp => ?_⟩
  obtain ⟨t, h, q⟩ := hbody f cdv A outer s H vs Q E hr hsp
  exact ⟨t, h.nox, q⟩
/-- a def that may raise -/
theorem Src.calX (S : Src K mg x st) (sc : FnScope N ps (defScope st)) (bn : BindP x st ps) (len : ∀ vs H Q E, sp vs H Q E → vs.length = ps.length)
    (hbody : ∀ (f : Addr) (cdv : Value) (A : Around) (outer : List Env) (s : Shared) (H : Hp) (vs : List V) (Q : VK) (E : XK), Room k (A.deeper (envOfC x (defScope st) s.heap.objs.size f cdv)) → sp vs H Q E →
      ∃ t, PSs (cxOf (L2.CX P w) P w K mg base N x (defScope st) f cdv A outer s H E) (defBody st) t ∧ t { nx := fun _ H' => Q .non H', rt := Q } (start N vs) H) : Cal P w K mg base (L2.CX P w) (k + 1) x ps sp := by
  obtain ⟨f, fd, g, F⟩ := S
  exact ⟨f, fd, g, F.kp, F.bindsN bn, F.ok sc len fun cdv A outer s H vs Q E hr hsp => hbody f cdv A outer s H vs Q E hr hsp⟩
end
/-! ### arguments without a star -/
def nostar : Expr → Bool
  | .Starred _ _ => false
  | _ => true
theorem star_ok {e : Expr} {es : List Expr} {env : Env} (h : nostar e = true) : starEach (e :: es) env = (false, eval e env) :: starEach es env := by
  cases e <;> first | rfl | cases h
theorem back_ok {pos : Pos} {env : Env} : ∀ {es : List Expr}, es.all nostar = true → (backTo pos (starEach es env)).any (·.1) = false
  | [], _ => rfl
  | e :: es, h => by
    simp only [List.all_cons, Bool.and_eq_true] at h
    rw [star_ok h.1]
    show (false || (backTo pos (starEach es env)).any (·.1)) = false
    rw [back_ok h.2]
    rfl
theorem pa_c {X : Cx} {e : Expr} {es : List Expr} {te : TE} {t : TA} (ha : PE X e te) (hr : PA X es t) (hs : nostar e = true := by rfl) : PA X (e :: es) (tCons te t) := pa_cons ha hr (star_ok hs)
section
variable {X : Cx} {x : Str} {p pos : Pos} {e : Expr} {es : List Expr} {t : TA} {id T : String} {r : List V → Hp → VK → Prop}
theorem pe_cB (hc : CallR X (.builtin id) r) (hm : X.mg x = none) (hv : bootBuiltins x = some (.builtin id)) (ha : PA X (e :: es) t) (hg : Gl X x := by rfl) (hn : x ≠ "__name__" := by decide) (hdb : (x == ("__debug__" : Str)) = false := by decide)
    (hs : (e :: es).all nostar = true := by rfl) : PE X (.Call (.Name x p) (e :: es) [] pos) (tCB r t) := by
  simp only [List.all_cons, Bool.and_eq_true] at hs
  exact pe_callB hc hg hm hv ha hn hdb (star_ok hs.1) (back_ok hs.2)
theorem pe_cTy (hc : CallR X (.type T) r) (hm : X.mg x = none) (hv : bootBuiltins x = some (.type T)) (ha : PA X (e :: es) t) (hg : Gl X x := by rfl) (hn : x ≠ "__name__" := by decide) (hdb : (x == ("__debug__" : Str)) = false := by decide)
    (hs : (e :: es).all nostar = true := by rfl) : PE X (.Call (.Name x p) (e :: es) [] pos) (tCB r t) := by
  simp only [List.all_cons, Bool.and_eq_true] at hs
  exact pe_callTy hc hg hm hv ha hn hdb (star_ok hs.1) (back_ok hs.2)
end
section
variable {X : Cx} {x : Str} {ps : List Str} {sp : Sp} {k : Nat} {CX : CXT} {E : XK} {e : Expr} {es : List Expr} {t : TA} {p pos : Pos}
/-- f(e, ..) -/
theorem pe_cal (C : Cal X.prog X.w X.K X.mg X.base CX k x ps sp) (hr : Room k X.A) (hx : Passes CX X E) (ha : PA X (e :: es) t) (hg : Gl X x := by rfl) (hdb : (x == ("__debug__" : Str)) = false := by decide)
    (hs : (e :: es).all nostar = true := by rfl) : PE X (.Call (.Name x p) (e :: es) [] pos) (tCall sp [] E t) := by
  obtain ⟨f, fd, g, kp, b, F⟩ := C.ex
  simp only [List.all_cons, Bool.and_eq_true] at hs
  exact pe_call F hr hg g kp b .nil hx ha hdb (star_ok hs.1) (back_ok hs.2)
theorem pe_cal0 (C : Cal X.prog X.w X.K X.mg X.base CX k x ps sp) (hr : Room k X.A) (hx : Passes CX X E) (hg : Gl X x := by rfl) (hdb : (x == ("__debug__" : Str)) = false := by decide) : PE X (.Call (.Name x p) [] [] pos) (tCall sp [] E tNil) := by
  obtain ⟨f, fd, g, kp, b, F⟩ := C.ex
  exact pe_call0 F hr hg g kp b .nil hx hdb
/-- f(e, ..) of a def that may raise, in a try's body -/
theorem pe_calS {W : WX} (C : Cal X.prog X.w X.K X.mg X.base (L2.CX X.prog X.w) k x ps sp) (hr : Room k X.A) (tk : Takes X W) (ha : PA X (e :: es) t) (hg : Gl X x := by rfl) (hdb : (x == ("__debug__" : Str)) = false := by decide)
    (hs : (e :: es).all nostar = true := by rfl) : PE X (.Call (.Name x p) (e :: es) [] pos) (tCallS sp (WE W) t) := by
  obtain ⟨f, fd, g, kp, b, F⟩ := C.ex
  simp only [List.all_cons, Bool.and_eq_true] at hs
  exact pe_callS F hr hg g kp b (fun σ => passAt tk σ) ha hdb (star_ok hs.1) (back_ok hs.2)
theorem pe_cst {v : V} (h : Cst X.mg x v) (hg : Gl X x := by rfl) (hdb : (x == ("__debug__" : Str)) = false := by decide) : PE X (.Name x p) (tC v) := by
  obtain ⟨u, hm, r⟩ := h
  exact pe_glob hg hm r hdb
end
end Fx
/-! The law's bag of numbers -/
namespace Fx
open PySem PySem.Spec PyProof.Rows L2
def bagKV (c : Addr) (a r m n : Int) : List (Key × V) := [(.inr "cells", .ref c), (.inr "at", .int a), (.inr "rest", .int r), (.inr "mixed", .int m), (.inr "count", .int n)]
section
variable {c : Addr} {a r m n : Int} {v : Int}
theorem bag_cells : valV (bagKV c a r m n) (.inr "cells") = some (.ref c) := rfl
theorem bag_at : valV (bagKV c a r m n) (.inr "at") = some (.int a) := rfl
theorem bag_rest : valV (bagKV c a r m n) (.inr "rest") = some (.int r) := rfl
theorem bag_mixed : valV (bagKV c a r m n) (.inr "mixed") = some (.int m) := rfl
theorem bag_count : valV (bagKV c a r m n) (.inr "count") = some (.int n) := rfl
theorem bag_atP : putK (bagKV c a r m n) (.inr "at") (.int v) = bagKV c v r m n := rfl
theorem bag_restP : putK (bagKV c a r m n) (.inr "rest") (.int v) = bagKV c a v m n := rfl
theorem bag_mixedP : putK (bagKV c a r m n) (.inr "mixed") (.int v) = bagKV c a r v n := rfl
theorem bag_countP : putK (bagKV c a r m n) (.inr "count") (.int v) = bagKV c a r m v := rfl
end
/-- the bag at b, its numbers at c -/
def BagC (H : Hp) (b c : Addr) : Prop := ∃ (ns : List Int) (a r m n : Int), H b = some (.dK (bagKV c a r m n)) ∧ H c = some (.lst (ns.map V.int)) ∧ 0 ≤ a
def Bag (H : Hp) (b : Addr) : Prop := ∃ c : Addr, BagC H b c
/-- all that was tracked but the bag is as it was; the bag is a bag -/
structure Kp (b : Addr) (H H' : Hp) : Prop where
  keep : ∀ a o, a ≠ b → H a = some o → H' a = some o
  bag : Bag H' b
  cel : ∀ c, BagC H b c → BagC H' b c
section
variable {b c D : Addr} {H H1 H2 : Hp}
theorem Bag.some (B : Bag H b) : ∃ kvs, H b = some (.dK kvs) := by
  obtain ⟨c, ns, a, r, m, n, h, _⟩ := B
  exact ⟨_, h⟩
theorem BagC.same (B : BagC H b c) (s : Same H H1) : BagC H1 b c := by
  obtain ⟨ns, a, r, m, n, h1, h2, h3⟩ := B
  exact ⟨ns, a, r, m, n, s _ _ h1, s _ _ h2, h3⟩
theorem Kp.refl (B : Bag H b) : Kp b H H := ⟨fun _ _ _ h => h, B, fun _ h => h⟩
theorem Kp.trans (x : Kp b H H1) (y : Kp b H1 H2) : Kp b H H2 := ⟨fun a o n h => y.keep a o n (x.keep a o n h), y.bag, fun c h => y.cel c (x.cel c h)⟩
theorem Bag.same (B : Bag H b) (s : Same H H1) : Bag H1 b := by
  obtain ⟨c, h⟩ := B
  exact ⟨c, h.same s⟩
theorem Kp.same (B : Bag H b) (s : Same H H1) : Kp b H H1 := ⟨fun a o _ h => s a o h, B.same s, fun c h => h.same s⟩
theorem Kp.then (x : Kp b H H1) (s : Same H1 H2) : Kp b H H2 := x.trans (Kp.same x.bag s)
theorem BagC.put {o : HO} (B : BagC H b c) (hb : b ≠ D) (hc : c ≠ D) : BagC (upd H D o) b c := by
  obtain ⟨ns, a, r, m, n, h1, h2, h3⟩ := B
  exact ⟨ns, a, r, m, n, by rw [upd_ne hb]; exact h1, by rw [upd_ne hc]; exact h2, h3⟩
/-- what was made since then may be changed -/
theorem Kp.put {o : HO} (B : Bag H b) (x : Kp b H H1) (hD : H D = Option.none) : Kp b H (upd H1 D o) := by
  have g : ∀ c, BagC H b c → BagC (upd H1 D o) b c := by
    intro c Bc
    have B1 := x.cel c Bc
    obtain ⟨ns, a, r, m, n, h1, h2, h3⟩ := Bc
    exact B1.put (ne_of_none h1 hD) (ne_of_none h2 hD)
  obtain ⟨c, Bc⟩ := B
  exact ⟨fun a o' n h => by rw [upd_ne (ne_of_none h hD)]; exact x.keep a o' n h, ⟨c, g c Bc⟩, g⟩
theorem Kp.none_ne (x : Kp b H H1) (B : Bag H b) (hD : H D = Option.none) : D ≠ b := fun e => by
  obtain ⟨kvs, h⟩ := B.some
  rw [← e, hD] at h
  cases h
theorem Bag.lst (B : Bag H b) {a : Addr} {xs : List V} (h : H a = Option.some (.lst xs)) : a ≠ b := by
  obtain ⟨c, ns, x, r, m, n, h1, _⟩ := B
  exact ne_of h h1 (by intro z; cases z)
theorem Bag.tup (B : Bag H b) {a : Addr} {xs : List V} (h : H a = Option.some (.tup xs)) : a ≠ b := by
  obtain ⟨c, ns, x, r, m, n, h1, _⟩ := B
  exact ne_of h h1 (by intro z; cases z)
theorem Kp.lst (x : Kp b H H1) (B : Bag H b) {a : Addr} {xs : List V} (h : H a = Option.some (.lst xs)) : H1 a = Option.some (.lst xs) := x.keep _ _ (B.lst h) h
theorem Kp.tup (x : Kp b H H1) (B : Bag H b) {a : Addr} {xs : List V} (h : H a = Option.some (.tup xs)) : H1 a = Option.some (.tup xs) := x.keep _ _ (B.tup h) h
theorem Kp.free (x : Kp b H H1) {p : Addr} (h : H1 p = Option.none) : H p = Option.none := by
  cases q : H p with
  | none => rfl
  | some o =>
    by_cases e : p = b
    · obtain ⟨kvs, hb⟩ := x.bag.some
      rw [e, hb] at h
      cases h
    · rw [x.keep p o e q] at h
      cases h
theorem same_new {H : Hp} {p : Addr} {o : HO} (h : H p = Option.none) : Same H (upd H p o) := fun b x e => by
  rw [upd_ne (ne_of_none e h)]
  exact e
end
/-- _law_pick(bag, many) -/
def spPick : Sp := fun vs H Q _ => ∃ (b : Addr) (many : Int), vs = [.ref b, .int many] ∧ Bag H b ∧ 0 < many ∧ many < 1073741824 ∧ ∀ (n : Int) (H' : Hp), 0 ≤ n → n < many → Kp b H H' → Q (.int n) H'
/-- _law_bag(script) -/
def spBag (K : PySem.W.Frag) : Sp := fun vs H Q _ => ∃ (a : Addr) (ns : List Int), vs = [.ref a] ∧ SqL K H a (ns.map V.int) ∧ ns.length ≤ 1000 ∧ ∀ (b : Addr) (H' : Hp), Same H H' → H b = none → Bag H' b → Q (.ref b) H'
end Fx
/-! Readings evaluated by simp -/
namespace Fx
open PySem PySem.Spec PyProof.Rows L2
section
variable {H H' : Hp} {a b p : Addr} {z : Str} {i : Int} {r : Option V} {v : V} {kvs : List (Key × V)} {o u : HO}
theorem dget_s (hb : H b = some (.dK kvs)) : DGet H b (.str z) r ↔ r = valV kvs (.inr z) := by
  constructor
  · rintro (⟨kvs', k, hr, e, rfl⟩ | ⟨kvs', k, b', hr, e, _⟩)
    · rcases hr with hr | ⟨o, hr⟩
      · rw [hb] at hr
        cases hr
        cases k with
        | inl i => cases e
        | inr y => cases e; rfl
      · rw [hb] at hr
        cases hr
    · cases e
  · rintro rfl
    exact DGet.k (k := Sum.inr z) hb
theorem dget_i (hb : H b = some (.dK kvs)) : DGet H b (.int i) r ↔ r = valV kvs (.inl i) := by
  constructor
  · rintro (⟨kvs', k, hr, e, rfl⟩ | ⟨kvs', k, b', hr, e, _⟩)
    · rcases hr with hr | ⟨o, hr⟩
      · rw [hb] at hr
        cases hr
        cases k with
        | inl i => cases e; rfl
        | inr y => cases e
      · rw [hb] at hr
        cases hr
    · cases e
  · rintro rfl
    exact DGet.k (k := Sum.inl i) hb
theorem dput_s (hb : H b = some (.dK kvs)) (hl : kvs.length < 1000) : DPut H b (.str z) v H' ↔ H' = upd H b (.dK (putK kvs (.inr z) v)) := by
  constructor
  · rintro (⟨kvs', k, hr, e, _, rfl⟩ | ⟨kvs', k, b', hr, e, _⟩)
    · rw [hb] at hr
      cases hr
      cases k with
      | inl i => cases e
      | inr y => cases e; rfl
    · cases e
  · rintro rfl
    exact DPut.k (k := Sum.inr z) hb (Nat.lt_of_lt_of_le hl (by decide))
theorem dget_su : DGet (upd H b (.dK kvs)) b (.str z) r ↔ r = valV kvs (.inr z) := dget_s upd_same
theorem dput_su (hl : kvs.length < 1000) : DPut (upd H b (.dK kvs)) b (.str z) v H' ↔ H' = upd H b (.dK (putK kvs (.inr z) v)) := by
  rw [dput_s upd_same hl, upd_upd]
theorem bag_len {c : Addr} {a r m n : Int} : (bagKV c a r m n).length < 1000 := show 5 < 1000 by decide
theorem ite_dec {p : Prop} [Decidable p] {A B : Prop} : (if decide p = true then A else B) ↔ (if p then A else B) := by simp
theorem ite_ndec {p : Prop} [Decidable p] {A B : Prop} : (if (!decide p) = true then A else B) ↔ (if p then B else A) := by
  by_cases h : p <;> simp [h]
end
end Fx
namespace Fx
open PySem PySem.Spec PyProof.Rows L2
/-- one statement first; the rest stays folded -/
theorem seqI {t u : TS} {D : Ends} {σ : L2.St} {H : Hp} (h : ∀ K : L2.St → Hp → Prop, (∀ σ H, u D σ H → K σ H) → t { D with nx := K } σ H) : tSeq t u D σ H := h (u D) fun _ _ x => x
theorem ite_i {c A B : Prop} [Decidable c] (h1 : c → A) (h2 : ¬ c → B) : if c then A else B := ite2 h1 h2
theorem sz {n : Nat} (h : n ≤ 100000) : n ≤ sizeLine := Nat.le_trans h (by decide)
end Fx
namespace Fx
open PySem PySem.Spec PyProof.Rows L2
theorem cx_K {CX : CXT} {P : Program} {w : World} {K : PySem.W.Frag} {mg : Str → Option Value} {base : Heap} {N : List Str} {qual : Str} {scope : Scope} {f : Addr} {cd : Value} {A : Around} {outer : List Env} {s : Shared} {H : Hp} {E : XK} :
    (cxOf CX P w K mg base N qual scope f cd A outer s H E).K = K := rfl
end Fx
/-! Rules whose readings ask the tracked heap alone -/
namespace Fx
open PySem PySem.Spec PyProof.Rows L2
section
variable {X : Cx}
theorem IxR.imp {r r' : R2} (h : IxR X r) (i : ∀ x y H Q, r' x y H Q → r x y H Q) : IxR X r' := by
  intro value slice pins s σ H x y v u Q I rx ry q e
  exact h value slice pins s σ H x y v u Q I rx ry (i _ _ _ _ q) e
theorem CallR.imp {f : Value} {r r' : List V → Hp → VK → Prop} (h : CallR X f r) (i : ∀ xs H Q, r' xs H Q → r xs H Q) : CallR X f r' := fun pins s σ H xs us Q I rx q => h pins s σ H xs us Q I rx (i _ _ _ q)
theorem SlR.imp {r r' : V → Option Int → Option Int → Hp → VK → Prop} (h : SlR X r) (i : ∀ x lo hi H Q, r' x lo hi H Q → r x lo hi H Q) : SlR X r' := by
  intro pins s σ H x v vl vu lo hi sl Q I rx hs pl pu q
  exact h pins s σ H x v vl vu lo hi sl Q I rx hs pl pu (i _ _ _ _ _ q)
/-- xs[i], a tracked list | tuple -/
def rIxLt : R2 := fun x y H Q => ∃ p i xs, x = .ref p ∧ y = .int i ∧ H p = some (.lst xs) ∧ ∃ v, atI xs i = some v ∧ Q v H
def rIxTt : R2 := fun x y H Q => ∃ p i xs, x = .ref p ∧ y = .int i ∧ H p = some (.tup xs) ∧ ∃ v, atI xs i = some v ∧ Q v H
theorem ix_L : IxR X rIxLt := IxR.imp ix_list fun x y H Q ⟨p, i, xs, e1, e2, h, v, a, q⟩ => ⟨p, xs, i, v, e1, e2, .inl (.inl h), a, q⟩
theorem ix_T : IxR X rIxTt := IxR.imp ix_tup fun x y H Q ⟨p, i, xs, e1, e2, h, v, a, q⟩ => ⟨p, xs, i, v, e1, e2, .inl (.inl h), a, q⟩
/-- s[i] -/
def rIxSt : R2 := fun x y H Q => ∃ z i, x = .str z ∧ y = .int i ∧ z.length ≤ sizeLine ∧ ∃ c, atI z.cps.toList i = some c ∧ Q (.str ⟨#[c]⟩) H
theorem ix_S : IxR X rIxSt := IxR.imp ix_str fun x y H Q ⟨z, i, e1, e2, h, v, a, q⟩ => ⟨z, i, v, e1, e2, h, a, q⟩
/-- len(xs) -/
def rLenL : List V → Hp → VK → Prop := fun xs H Q => ∃ p ys, xs = [.ref p] ∧ H p = some (.lst ys) ∧ Q (.int ys.length) H
def rLenT : List V → Hp → VK → Prop := fun xs H Q => ∃ p ys, xs = [.ref p] ∧ H p = some (.tup ys) ∧ Q (.int ys.length) H
theorem len_L : CallR X (.builtin "len") rLenL := CallR.imp call_len_seq fun xs H Q ⟨p, ys, e, h, q⟩ => ⟨p, ys, e, .inl (.inl (.inl h)), q⟩
theorem len_T : CallR X (.builtin "len") rLenT := CallR.imp call_len_seq fun xs H Q ⟨p, ys, e, h, q⟩ => ⟨p, ys, e, .inr (.inl (.inl h)), q⟩
def rLenS : List V → Hp → VK → Prop := fun xs H Q => ∃ z, xs = [.str z] ∧ z.length ≤ sizeLine ∧ Q (.int z.length) H
theorem len_S : CallR X (.builtin "len") rLenS := call_len_str
/-- int(n) -/
def rIntI : List V → Hp → VK → Prop := fun xs H Q => ∃ i, xs = [.int i] ∧ Q (.int i) H
theorem int_I : CallR X (.type "int") rIntI := CallR.imp call_int1 fun xs H Q h => .inl h
def rOrd : List V → Hp → VK → Prop := fun xs H Q => ∃ x, xs = [.str x] ∧ x.length = 1 ∧ Q (.int (x.cps.getD 0 0 : Nat)) H
theorem ord_S : CallR X (.builtin "ord") rOrd := call_ord
/-- xs[a:b] -/
def rSlLt : V → Option Int → Option Int → Hp → VK → Prop := fun x lo hi H Q => ∃ a xs, x = .ref a ∧ H a = some (.lst xs) ∧ ∀ p, H p = none → Q (.ref p) (upd H p (.lst (cutV xs lo hi)))
theorem sl_L : SlR X rSlLt := SlR.imp sl_list fun x lo hi H Q ⟨a, xs, e, h, q⟩ => ⟨a, xs, e, .inl (.inl h), q⟩
/-- list(t), list(xs) -/
def rLstL : List V → Hp → VK → Prop := fun xs H Q => ∃ p ys, xs = [.ref p] ∧ H p = some (.lst ys) ∧ ∀ l, H l = none → Q (.ref l) (upd H l (.lst ys))
def rLstT : List V → Hp → VK → Prop := fun xs H Q => ∃ p ys, xs = [.ref p] ∧ H p = some (.tup ys) ∧ ∀ l, H l = none → Q (.ref l) (upd H l (.lst ys))
theorem list_L : CallR X (.type "list") rLstL := CallR.imp call_list_of fun xs H Q ⟨p, ys, e, h, q⟩ => ⟨p, ys, e, .inl (.inl (.inl h)), q⟩
theorem list_T : CallR X (.type "list") rLstT := CallR.imp call_list_of fun xs H Q ⟨p, ys, e, h, q⟩ => ⟨p, ys, e, .inr (.inl (.inl h)), q⟩
/-- all(xs), any(xs) of truth values -/
def rAllL : List V → Hp → VK → Prop := fun vs H Q => ∃ (a : Addr) (bs : List Bool), vs = [V.ref a] ∧ H a = some (.lst (bs.map V.bl)) ∧ Q (.bl (bs.all id)) H
def rAnyL : List V → Hp → VK → Prop := fun vs H Q => ∃ (a : Addr) (bs : List Bool), vs = [V.ref a] ∧ H a = some (.lst (bs.map V.bl)) ∧ Q (.bl (bs.any id)) H
theorem all_L (hc : X.calm = true) : CallR X (.builtin "all") rAllL := CallR.imp (cr_all hc) fun xs H Q ⟨p, ys, e, h, q⟩ => ⟨p, ys, e, .inl (.inl h), q⟩
theorem any_L (hc : X.calm = true) : CallR X (.builtin "any") rAnyL := CallR.imp (cr_any hc) fun xs H Q ⟨p, ys, e, h, q⟩ => ⟨p, ys, e, .inl (.inl h), q⟩
/-- s * n -/
def rMulS : R2 := fun x y H Q => ∃ z n, x = .str z ∧ y = .int n ∧ 0 ≤ n ∧ n ≤ 1000000 ∧ z.length * n.toNat ≤ 1000000 ∧ Q (.str (Txt.mul z n)) H
theorem mulOk_of {z : Str} {n : Int} (h0 : 0 ≤ n) (h : z.length * n.toNat ≤ 1000000) (hn : z.length ≠ 0 → n ≤ 1000000) (h63 : n < 2 ^ 63) : MulOk z n := by
  refine ⟨?_, fun h1 h2 => ?_, fun h1 h2 => ?_⟩
  · have a : ¬ n < -(2 ^ 63 : Int) := by omega
    have b : ¬ n ≥ 2 ^ 63 := by omega
    simp only [decide_eq_false a, decide_eq_false b, Bool.or_self]
  · simp only [Bool.or_eq_false_iff, beq_eq_false_iff_ne] at h2
    have hz := hn h2.2
    have hl : z.length ≤ 1000000 := Nat.le_trans (Nat.le_mul_of_pos_right _ (by omega)) h
    have : (2 ^ 63 - 1) / n ≥ 1000000 := by
      apply (Int.le_ediv_iff_mul_le (by omega)).mpr
      have : 1000000 * n ≤ 1000000 * 1000000 := Int.mul_le_mul_of_nonneg_left hz (by decide)
      omega
    omega
  · unfold Builtin.Str.tooLong
    rw [decide_eq_false_iff_not, sizeLine_eq]
    omega
theorem op_mul_str : OpR X (binaryOp .Mult) rMulS := by
  intro pins s σ H x y v u Q I rx ry h
  obtain ⟨z, n, rfl, rfl, h0, h1, hl, q⟩ := h
  obtain ⟨t, rfl⟩ := rx
  obtain ⟨t', rfl⟩ := ry
  exact SB.mul (mulOk_of h0 hl (fun _ => h1) (by omega)) fun t' k => ⟨.str (Txt.mul z n), H, I.tok _, ⟨_, rfl⟩, q⟩
end
/-! ### for i, c in enumerate(text) -/
def Ites (z : Str) : It :=
  ⟨fun i _ => i < z.cps.size, fun i H v H' => ∃ T c, v = .ref T ∧ H T = none ∧ H' = upd H T (.tup [.int (i : Nat), .str ⟨#[c]⟩]) ∧ z.cps[i]? = some c, fun i _ => z.cps.size ≤ i⟩
theorem strDraws {P : Program} {w : World} {A : Around} (hh : A.handled = none) (it : Addr) (x : Str) (t : Tok) : Draws P w A it [it] x.cps.size (fun i v => ∃ c u, x.cps[i]? = some c ∧ v = .str ⟨#[c]⟩ u) (fun i h => h.IsStrIter it (strIterType x) x t i) := by
  have e : strIterType x = "str_ascii_iterator" ∨ strIterType x = "str_iterator" := by
    unfold strIterType
    split
    · exact .inl rfl
    · exact .inr rfl
  rcases e with e | e
  · rw [e]; exact Draws.strAscii hh it x t
  · rw [e]; exact Draws.strWide hh it x t
theorem turn_enumS {P : Program} {w : World} {K : PySem.W.Frag} {elts : List Expr} {kk : Nat} {tpos : Pos} (x : Str) (t : Tok) (e it : Addr) :
    Turn P w K (.Tuple elts kk tpos) (Ites x) [e, it] e (fun i h => (∃ old, IsEnum h e it ((i : Nat) : Int) old) ∧ h.IsStrIter it (strIterType x) x t i ∧ i ≤ x.cps.size ∧ e ≠ it) where
  mem := by simp
  obj := fun i h st b hb => by
    obtain ⟨⟨old, he⟩, ⟨o, ho, hc, hd⟩, _⟩ := st
    have e' : b = e ∨ b = it := by simpa using hb
    rcases e' with z | z
    · rw [z]; exact ⟨_, he, fun v q => nomatch q⟩
    · rw [z]; exact ⟨o, ho, fun v q => by rw [hd] at q; cases q⟩
  keep := fun i h h' st k => let ⟨⟨old, he⟩, ⟨o, ho, hr⟩, hi, hne⟩ := st; ⟨⟨old, k e (by simp) _ he⟩, ⟨o, k it (by simp) o ho, hr⟩, hi, hne⟩
  item := by
    intro X hP hw hK hc i pins s σ H E I hf st hg
    subst hP hw hK
    obtain ⟨⟨old, he⟩, hit, hi, hne⟩ := st
    have hel : e < s.heap.objs.size := Heap.lt_size he
    have hil : it < s.heap.objs.size := by obtain ⟨_, q, _⟩ := hit; exact Heap.lt_size q
    have D := strDraws (P := X.prog) (w := X.w) (A := X.A.in1) (show X.A.in1.handled = none from I.ok.hd hc) it x t
    refine wpAny_pyNext_enum_itemD D he hit hg hne (by simpa using hne) fun u h' tk hu ho hit' hT hsz hk => ?_
    obtain ⟨c, tc, hcx, rfl⟩ := hu
    refine ⟨_, rfl, wpAny_letOwnedTupleGo_enum (s := { s with heap := h', toks := tk + 1 }) ho fun h'' he' sb => ?_⟩
    have hT2 : h''.get? s.heap.objs.size = some { cls := .type "tuple", data := .seq #[.int i tk, .str ⟨#[c]⟩ tc] } := (sb.2 _ (Nat.ne_of_gt hel)).trans hT
    have new : ObjOk X.prog X.w (upd H s.heap.objs.size (.tup [.int (i : Nat), .str ⟨#[c]⟩])) h'' s.heap.objs.size (.tup [.int (i : Nat), .str ⟨#[c]⟩]) :=
      ⟨by show 2 ≤ sizeLine; decide, [.int i tk, .str ⟨#[c]⟩ tc], .cons ⟨_, rfl⟩ (.cons ⟨_, rfl⟩ .nil), ⟨_, hT2, rfl, _, rfl⟩⟩
    have I1 : Inv X pins σ (upd H s.heap.objs.size (.tup [.int (i : Nat), .str ⟨#[c]⟩])) { s with heap := h'', toks := tk + 1 } :=
      I.turnedNew (ch := [e, it]) (fun b ob hb q => (sb.2 b (fun z => hb (by simp [z]))).trans (hk b ob (fun z => hb (by simp [z])) (fun z => hb (by simp [z])) q)) hf (Nat.le_refl _) new
    refine ⟨.ref s.heap.objs.size, _, I1, rfl, ⟨_, c, rfl, I.hok.fresh (Nat.le_refl _), rfl, hcx⟩, ⟨⟨.str ⟨#[c]⟩ tc, ?_⟩, ?_, hg, hne⟩, fun b hb => ?_⟩
    · have e1 : ((i + 1 : Nat) : Int) = (i : Int) + 1 := by omega
      rw [e1]; exact he'
    · obtain ⟨o, ho2, hr⟩ := hit'
      exact ⟨o, (sb.2 it (Ne.symm hne)).trans ho2, hr⟩
    · have hb' : b < s.heap.objs.size := by
        have e' : b = e ∨ b = it := by simpa using hb
        rcases e' with z | z
        · rw [z]; exact hel
        · rw [z]; exact hil
      rw [upd_ne (Nat.ne_of_lt hb')]
      exact (hf b hb).1
  done := by
    intro X hP hw hK hc i pins s σ H E I hf st hg
    subst hP hw hK
    obtain ⟨⟨old, he⟩, hit, hi, hne⟩ := st
    have ei : i = x.cps.size := Nat.le_antisymm hi hg
    subst ei
    obtain ⟨f0, f1, f2, f3, f4, f5⟩ := hf it (by simp)
    have D := strDraws (P := X.prog) (w := X.w) (A := X.A.in1) (show X.A.in1.handled = none from I.ok.hd hc) it x t
    exact wpAny_pyNext_enum_endD D he hit fun h' eb => ⟨rfl, I.turned (t' := s.toks) (fun b o hb q => eb b o hb q) f0 f1 f3 f4 f5⟩
  self := fun A i s Q E st h => let ⟨⟨_, he⟩, _⟩ := st; wpAny_pyIter_enum he h
def iEnumS (ta : TA) : TI := fun σ H R => ta σ H fun vs H1 => ∃ z, vs = [.str z] ∧ R (Ites z) H1
theorem pi_enumS {X : Cx} {e : Expr} {ta : TA} {p pos tpos : Pos} {elts : List Expr} {kk : Nat} (hg : Gl X "enumerate") (hm : X.mg "enumerate" = none) (ha : PA X [e] ta) (hs : starEach [e] X.env = [(false, eval e X.env)] := by rfl) :
    PI X (.Tuple elts kk tpos) (.Call (.Name "enumerate" p) [e] [] pos) (iEnumS ta) := by
  refine ⟨fun pins s σ H R I h => ?_⟩
  refine Call_ (ld_blt I hg hm boot_enumerate (PyProof.Rows.callWith_type1 (thn (ha.run pos pins s σ H _ I h) fun us s1 ⟨vs, H1, I1, r1, q1⟩ => ?_) hs rfl))
  obtain ⟨z, ex, q⟩ := q1
  subst ex
  cases r1 with
  | cons r rr =>
    cases rr
    obtain ⟨t, rfl⟩ := r
    refine call_enumerate_str fun h' he hit hsz hk => wpAny_pyIter_enum he ?_
    have I2 : Inv X pins σ H1 { s1 with heap := h' } := I1.kept (t' := s1.toks) hk
    refine ⟨s1.heap.objs.size + 1, [s1.heap.objs.size + 1, s1.heap.objs.size], _, _, H1, rfl, I2, turn_enumS z t (s1.heap.objs.size + 1) s1.heap.objs.size, ⟨⟨.none, he⟩, hit, Nat.zero_le _, Nat.succ_ne_self _⟩, fun b hb => ?_, q⟩
    have e' : b = s1.heap.objs.size + 1 ∨ b = s1.heap.objs.size := by simpa using hb
    have hle : s1.heap.objs.size ≤ b := by
      rcases e' with z | z
      · rw [z]; exact Nat.le_add_right _ _
      · rw [z]; exact Nat.le_refl _
    exact I1.fpOk hle (I1.hok.fresh hle)
/-- the loop over enumerate(text), by an invariant -/
theorem for_enumS {z : Str} {g : TG} {tb : TS} {D : Ends} {σ : L2.St} {H1 : Hp} (Pv : Nat → L2.St → Hp → Prop) (h0 : Pv 0 σ H1)
    (hs : ∀ i c T σ H, z.cps[i]? = some c → Pv i σ H → H T = none → g (.ref T) σ (upd H T (.tup [.int (i : Nat), .str ⟨#[c]⟩])) fun σ' H' => tb { nx := fun σ H => Pv (i + 1) σ H, rt := D.rt, bk := D.nx, ct := fun σ H => Pv (i + 1) σ H } σ' H')
    (hd : ∀ σ H, Pv z.cps.size σ H → D.nx σ H) : ∃ W : Nat → Nat → L2.St → Hp → Prop, (∃ m, W 0 m σ H1) ∧ ∀ i m σ H, W i m σ H →
      ((Ites z).stop i H ∧ D.nx σ H) ∨ ((Ites z).go i H ∧ ∃ N : L2.St → Hp → Prop, (∀ σ' H', N σ' H' → ∃ m', m' < m ∧ W (i + 1) m' σ' H') ∧ ∀ x H', (Ites z).yld i H x H' → g x σ H' fun σ2 H2 => tb { nx := N, rt := D.rt, bk := D.nx, ct := N } σ2 H2) := by
  refine ⟨fun i m σ H => m = z.cps.size - i ∧ i ≤ z.cps.size ∧ Pv i σ H, ⟨_, rfl, Nat.zero_le _, h0⟩, ?_⟩
  rintro i m σ H ⟨rfl, hi, p⟩
  by_cases hlt : i < z.cps.size
  · refine .inr ⟨hlt, fun σ' H' => Pv (i + 1) σ' H', fun σ' H' q => ⟨z.cps.size - (i + 1), by omega, rfl, hlt, q⟩, fun x H' hy => ?_⟩
    obtain ⟨T, c, rfl, nT, rfl, hc⟩ := hy
    exact hs i c T σ H hc p nT
  · have ei : i = z.cps.size := by omega
    subst ei
    exact .inl ⟨Nat.le_refl _, hd σ H p⟩
end Fx
/-! == of flat lists; isinstance of built-in classes -/
namespace Fx
open PySem PySem.Spec PyProof.Rows L2
/-- None, an int, a text: two of these are equal in Python just if they are the same -/
def isF : V → Bool
  | .non => true
  | .int _ => true
  | .str x => PyData.strOk x
  | _ => false
def datV : V → PyData
  | .non => .none
  | .int i => .int i
  | .str x => .str x
  | _ => .none
theorem eqv_dat {x y : V} (hx : isF x = true) (hy : isF y = true) : PyData.eqv (datV x) (datV y) = decide (x = y) := by
  cases x <;> cases y <;> first | (exfalso; revert hx; simp [isF]; done) | (exfalso; revert hy; simp [isF]; done) | (simp [datV, PyData.eqv]; done) | (simp only [datV, PyData.eqv, V.int.injEq, V.str.injEq]; exact Bool.eq_iff_iff.mpr (by simp)) 
theorem eqvAll_dat : ∀ {xs ys : List V}, xs.all isF = true → ys.all isF = true → PyData.eqvAll (xs.map datV) (ys.map datV) = decide (xs = ys)
  | [], [], _, _ => by simp [PyData.eqvAll]
  | [], _ :: _, _, _ => by simp [PyData.eqvAll]
  | _ :: _, [], _, _ => by simp [PyData.eqvAll]
  | x :: xs, y :: ys, hx, hy => by
    simp only [List.all_cons, Bool.and_eq_true] at hx hy
    simp only [List.map_cons, PyData.eqvAll, eqv_dat hx.1 hy.1, eqvAll_dat hx.2 hy.2]
    by_cases e : x = y <;> simp [e]
theorem dp_dat {K : PySem.W.Frag} {H : Hp} {x : V} (hx : isF x = true) : Dp K H x (datV x) := by
  cases x <;> first | (exfalso; revert hx; simp [isF]; done) | exact .non | exact .int _ | exact .str _
theorem dpAll_dat {K : PySem.W.Frag} {H : Hp} : ∀ {xs : List V}, xs.all isF = true → DpAll K H xs (xs.map datV)
  | [], _ => .nil
  | x :: xs, hx => by
    simp only [List.all_cons, Bool.and_eq_true] at hx
    exact .cons (dp_dat hx.1) (dpAll_dat hx.2)
theorem lay_flat : ∀ {xs : List V}, xs.all isF = true → PyData.canLayAll0 (xs.map datV) = true ∧ PyData.depthAll (xs.map datV) = 0
  | [], _ => by simp [PyData.canLayAll0, PyData.depthAll]
  | x :: xs, hx => by
    simp only [List.all_cons, Bool.and_eq_true] at hx
    obtain ⟨h1, h2⟩ := lay_flat hx.2
    have h3 : PyData.canLay0 (datV x) = true ∧ PyData.depth (datV x) = 0 := by
      have hx1 := hx.1
      cases x <;> first | (exfalso; revert hx1; simp [isF]; done) | exact ⟨by simpa [datV, PyData.canLay0, isF] using hx1, by simp [datV, PyData.depth]⟩
    simp [PyData.canLayAll0, PyData.depthAll, h1, h2, h3.1, h3.2]
theorem shaped_flat {xs : List V} (hx : xs.all isF = true) : SeqAt.shaped (.list (xs.map datV)) = true := by
  obtain ⟨h1, h2⟩ := lay_flat hx
  simp [SeqAt.shaped, PyData.canLay0, PyData.depth, h1, h2]
def rEqL : R2 := fun x y H Q => ∃ p q xs ys, x = .ref p ∧ y = .ref q ∧ H p = some (.lst xs) ∧ H q = some (.lst ys) ∧ xs.all isF = true ∧ ys.all isF = true ∧ Q (.bl (decide (xs = ys))) H
theorem eq_LL {X : Cx} (hu : X.A.units + 64 < cLine) : OpR X (compareOp .Eq) rEqL := by
  intro pins s σ H x y v u Q I rx ry h
  obtain ⟨p, q, xs, ys, rfl, rfl, hp, hq, fx, fy, k⟩ := h
  refine op_eqD hu pins s σ H _ _ v u Q I rx ry ⟨.list (xs.map datV), .list (ys.map datV), .lst (.inl (.inl hp)) (dpAll_dat fx), .lst (.inl (.inl hq)) (dpAll_dat fy), shaped_flat fx, shaped_flat fy, ?_⟩
  rw [PyData.eqv, eqvAll_dat fx fy]
  exact k
/-- what built-in type a value is of -/
def tyv (H : Hp) : V → Option String
  | .non => some "NoneType"
  | .bl _ => some "bool"
  | .int _ => some "int"
  | .str _ => some "str"
  | .byt _ => some "bytes"
  | .ref a => (match H a with
    | some (.lst _) => some "list"
    | some (.tup _) => some "tuple"
    | some (.dK _) => some "dict"
    | some (.dT _) => some "dict"
    | _ => none)
  | _ => none
theorem tyv_ok {K : PySem.W.Frag} {H : Hp} {x : V} {t : String} (h : tyv H x = some t) : TyX K H x (.type t) := by
  cases x with
  | non => cases h; exact .base .non
  | bl b => cases h; exact .base (.bl b)
  | int i => cases h; exact .base (.int i)
  | str z => cases h; exact .base (.str z)
  | byt b => cases h; exact .byt b
  | flt b => cases h
  | ty n => cases h
  | ref a =>
    simp only [tyv] at h
    cases e : H a with
    | none => simp only [e] at h; cases h
    | some o =>
      simp only [e] at h
      cases o <;> first | (cases h; done) | (cases h; exact .base (.lst e)) | (cases h; exact .base (.tup e)) | (cases h; exact .base (.dK e)) | (cases h; exact .base (.dT e))
section
variable {H : Hp} {a : Addr} {xs : List V} {kvs : List (Key × V)}
theorem tyv_non : tyv H .non = some "NoneType" := rfl
theorem tyv_bl {b : Bool} : tyv H (.bl b) = some "bool" := rfl
theorem tyv_int {i : Int} : tyv H (.int i) = some "int" := rfl
theorem tyv_str {z : Str} : tyv H (.str z) = some "str" := rfl
theorem tyv_lst (h : H a = some (.lst xs)) : tyv H (.ref a) = some "list" := by simp only [tyv, h]
theorem tyv_tup (h : H a = some (.tup xs)) : tyv H (.ref a) = some "tuple" := by simp only [tyv, h]
theorem tyv_dK (h : H a = some (.dK kvs)) : tyv H (.ref a) = some "dict" := by simp only [tyv, h]
end
def rIsB : List V → Hp → VK → Prop := fun xs H Q => ∃ x n, xs = [x, .ty n] ∧ ∃ t, tyv H x = some t ∧ ∃ b, kitB t n = some b ∧ Q (.bl b) H
theorem is_B {X : Cx} : CallR X (.builtin "isinstance") rIsB := CallR.imp call_isi fun xs H Q ⟨x, n, e, t, ht, b, hb, q⟩ => ⟨x, .ty n, .type t, .type n, b, e, .ty n, tyv_ok ht, kit_ty hb, q⟩
theorem kb_int_int : kitB "int" "int" = some true := by decide +kernel
theorem kb_int_bool : kitB "int" "bool" = some false := by decide +kernel
theorem kb_bool_int : kitB "bool" "int" = some true := by decide +kernel
theorem kb_bool_bool : kitB "bool" "bool" = some true := by decide +kernel
theorem kb_str_str : kitB "str" "str" = some true := by decide +kernel
theorem kb_int_str : kitB "int" "str" = some false := by decide +kernel
theorem kb_bool_str : kitB "bool" "str" = some false := by decide +kernel
theorem kb_none_str : kitB "NoneType" "str" = some false := by decide +kernel
theorem kb_list_str : kitB "list" "str" = some false := by decide +kernel
theorem kb_tuple_str : kitB "tuple" "str" = some false := by decide +kernel
theorem kb_dict_str : kitB "dict" "str" = some false := by decide +kernel
theorem kb_tuple_tuple : kitB "tuple" "tuple" = some true := by decide +kernel
theorem kb_list_list : kitB "list" "list" = some true := by decide +kernel
end Fx
/-! A def whose body begins with a token out (for str.replace): with cells too -/
namespace Fx
open PySem PySem.Spec PyProof.Rows L2
section
variable {M : Model} {A : Around} {E : Value → Shared → Prop} {s₀ s : Shared} {m cm : Str → Option Value} {env : Env}
theorem stLCT {n : Str} {v : Value} {Q : Unit → Shared → Prop} (x : InCallC s₀ env.locals m env.cells cm s) (hk : env.scope.kind = .function) (hl : env.kindOf n = some .local)
    (h : ∀ s', InCallC s₀ env.locals (fun y => if y = n then some v else m y) env.cells cm s' → 1 ≤ s'.toks → Q () s') : wpAny M A (storeName env n v) Q E s := by
  refine wpAny_storeName_local hl x.toInCall.ns (fun h' hn' hs' => h _ ⟨⟨?_, hn', fun b o e => ?_, x.toInCall.fresh⟩, fun k c hc => ?_, x.apart, x.above⟩ (Nat.le_add_left _ _)) (by rw [hk]; rfl)
  · obtain ⟨h₁, tk, rfl⟩ := x.toInCall.same
    exact ⟨h', _, rfl⟩
  · exact hs'.extBut b o (Nat.ne_of_lt (Nat.lt_of_lt_of_le (Heap.lt_size e) x.toInCall.fresh)) (x.toInCall.keep b o e)
  · exact (x.cell k c hc).sameBut hs' (Nat.ne_of_gt (x.above k c (mem_of_lookup hc)))
theorem bindParamsT (f : Str × Value → PUnit → Sem (ForInStep PUnit)) (hf : ∀ n v u, f (n, v) u = (do storeName env n v; pure (.yield ⟨⟩))) (hk : env.scope.kind = .function)
    (n : Str) (v : Value) (r : List (Str × Value)) (hl : env.kindOf n = some .local) (m cm : Str → Option Value) (s : Shared) (Q : PUnit → Shared → Prop) (x : InCallC s₀ env.locals m env.cells cm s)
    (hkind : ∀ y ∈ r, env.kindOf y.1 = some .local ∨ (env.kindOf y.1 = some .cell ∧ (env.cells.lookup y.1).isSome = true))
    (h : ∀ s', InCallC s₀ env.locals (bindL env.kindOf ((n, v) :: r) m) env.cells (bindC env.kindOf ((n, v) :: r) cm) s' → 1 ≤ s'.toks → Q ⟨⟩ s') : wpAny M A (forIn ((n, v) :: r) ⟨⟩ f) Q E s := by
  rw [List.forIn_cons, hf]
  refine wpAny_bind (wpAny_bind (stLCT x hk hl fun s' x' ht => wpAny_pure ?_))
  refine wpAny_with_toks ht (wpAny_bindParams f hf hk r _ _ s' (fun u s'' => 1 ≤ s''.toks → Q u s'') x' hkind fun s'' x'' ht' => h s'' ?_ ht')
  unfold bindL bindC
  rw [if_pos hl, if_pos hl]
  exact x''
end
section
variable {M : Model} {A : Around} {E : Value → Shared → Prop} {s : Shared}
theorem newFunctionEnvT {scope : Scope} {globals : Addr} {n : Str} {v : Value} {r : List (Str × Value)} {qual : Str} {func : Option Addr} {code : Value} {builtins : Addr} {Q : Env → Shared → Prop}
    (hk : scope.kind = .function) (hl : scope.names.lookup n = some .local)
    (hkind : ∀ x ∈ r, scope.names.lookup x.1 = some .local ∨ (scope.names.lookup x.1 = some .cell ∧ ((cellsFrom (s.heap.objs.size + 1) scope.names []).lookup x.1).isSome = true))
    (hQ : ∀ env, env = newEnv scope s.heap.objs.size globals (cellsFrom (s.heap.objs.size + 1) scope.names []) qual func code none builtins →
      ∀ s', InCallC s env.locals (bindL env.kindOf ((n, v) :: r) fun _ => none) env.cells (bindC env.kindOf ((n, v) :: r) fun _ => none) s' → 1 ≤ s'.toks → Q env s') :
    wpAny M A (newFunctionEnv scope globals [] ((n, v) :: r) qual func code none builtins) Q E s := by
  simp only [newFunctionEnv, Option.isSome_none, Bool.false_eq_true, if_false]
  refine wpAny_bind (wpAny_alloc ?_)
  refine wpAny_bind (wpAny_layCells _ (fun name kind cells => by cases hkc : kind == NameKind.cell <;> simp [hkc]) _ _ _ _ ?_)
  have ok := cellsFrom_ok scope.names (s.heap.push { cls := .type "frame", data := .dict #[] }) (s.heap.objs.size + 1) [] ⟨fun _ _ hm => (nomatch hm), List.Pairwise.nil⟩ (by rw [Heap.size_push]; exact Nat.le_refl _)
  rw [Heap.size_push] at ok
  rw [show ({ s with heap := s.heap.push { cls := .type "frame", data := .dict #[] } } : Shared).heap.objs.size = s.heap.objs.size + 1 from Heap.size_push ..]
  refine wpAny_bind (bindParamsT (s₀ := s) (env := newEnv scope s.heap.objs.size globals (cellsFrom (s.heap.objs.size + 1) scope.names []) qual func code none builtins)
    _ (fun _ _ _ => rfl) hk n v r hl (fun _ => none) (fun _ => none) _ _
    ⟨⟨⟨_, _, rfl⟩, (Heap.Ns.new s.heap (.type "frame")).keeps (pushCells_keeps _ _), fun b o e => pushCells_keeps _ _ b o (Heap.get?_push_of_some _ e), Nat.le_refl _⟩,
      fun n c hc => (ok.empty n c (mem_of_lookup hc)).1, ok.apart, fun n c hm => (ok.empty n c hm).2⟩
    hkind fun s' x ht => wpAny_pure (hQ _ rfl s' x ht))
end
/-- a def's body, a token out when it begins; its first parameter is a local -/
theorem fn_ofTC {CX : CXT} {P : Program} {w : World} {K : PySem.W.Frag} {mg : Str → Option Value} {base : Heap} {k : Nat} {f : Addr} {name qual : Str} {params : Arguments} {body : List Stmt} {scope : Scope} {dV kV doc pm cdv ct oc : Value} {an od : Option Addr}
    {osl : Array (Option Value)} {N ps : List Str} {x0 : Str} {sp : Sp} (lk : K.lookup f = some ⟨oc, od, .func (PySem.W.fnOf name qual params body scope dV kV doc pm an cdv ct), osl⟩) (hcd : PySem.W.codeIn K cdv qual = true) (S : FnScope N (x0 :: ps) scope)
    (h0 : scope.names.lookup x0 = some .local) (len : ∀ vs H Q E, sp vs H Q E → vs.length = (x0 :: ps).length)
    (hbody : ∀ (A : Around) (outer : List Env) (s : Shared) (H : Hp) (vs : List V) (Q : VK) (E : XK), Room k (A.deeper (envOfC qual scope s.heap.objs.size f cdv)) → sp vs H Q E →
      ∃ t, PSsT (cxOf CX P w K mg base N qual scope f cdv A outer s H E) body t ∧ t { nx := fun _ H' => Q .non H', rt := Q } (L2.start N vs) H) :
    FnOk P w K mg base CX (k + 1) f (PySem.W.fnOf name qual params body scope dV kV doc pm an cdv ct) (x0 :: ps) sp := by
  refine ⟨len, fun A outer s H args us vs Q E hr e0 hb r hsp => ?_⟩
  have hl := len _ _ _ _ hsp
  have KX : K.In s.heap := e0.mod.kin.keeps fun b o e => (e0.bs b o e).1
  have lim : s.heap.NoLimit := e0.mod.nolimit.keeps fun b o e => (e0.bs b o e).1
  have hul : us.length = (x0 :: ps).length := by rw [← r.length, hl]
  obtain ⟨u0, ur, rfl⟩ : ∃ u0 ur, us = u0 :: ur := by
    cases us with
    | nil => cases hul
    | cons a b => exact ⟨a, b, rfl⟩
  have hkind : ∀ y ∈ ps.zip ur, scope.names.lookup y.1 = some .local ∨ (scope.names.lookup y.1 = some .cell ∧ ((cellsFrom (s.heap.objs.size + 1) scope.names []).lookup y.1).isSome = true) := fun ⟨n, v⟩ hy => by
    rcases S.par n (List.mem_cons_of_mem _ (List.of_mem_zip hy).1) with q | q
    · exact .inl q
    · exact .inr ⟨q, PySem.W.cellsFrom_some _ _ _ (.inl q)⟩
  refine codeAny_call_function hr.depth (KX _ _ lk) rfl S.co S.gen rfl (PySem.W.codeRec_of KX hcd) (hb _ _ _ _ ?_)
  show wpAny _ _ (newFunctionEnv scope _ [] ((x0, u0) :: ps.zip ur) _ _ _ _ _) _ _ _
  refine newFunctionEnvT S.kind h0 hkind fun env he s1 x ht => ?_
  subst he
  refine ⟨lim.keeps x.toInCall.keep, codeAny_func ?_⟩
  obtain ⟨t, hT, hq⟩ := hbody A outer s H vs Q E (hr.deeper _) hsp
  have I : Inv (cxOf CX P w K mg base N qual scope f cdv A outer s H E) [] (L2.start N vs) H s1 := inv_start S hr.hd e0 hl r x
  refine wpAny_mono (hT [] s1 (L2.start N vs) H _ ht I hq) (fun fl s' hs => ?_) fun e s' hs => hs
  have fin : ∀ {σ' : L2.St} {H' : Hp} {v : V} {u : Value}, Inv (cxOf CX P w K mg base N qual scope f cdv A outer s H E) [] σ' H' s' → RelV v u → Q v H' → CE outer P w H s Q u s' :=
    fun {σ' H' v u} J rv q => ⟨v, H', J.os, J.bare, J.base, J.hok, rv, q⟩
  cases fl with
  | ret u =>
    obtain ⟨v, σ', H', J, rv, q⟩ := hs
    exact fin J rv q
  | next =>
    obtain ⟨σ', H', J, q⟩ := hs
    exact fin (v := V.non) (u := Value.none) J rfl q
  | brk =>
    obtain ⟨_, _, _, q⟩ := hs
    exact False.elim q
  | cont =>
    obtain ⟨_, _, _, q⟩ := hs
    exact False.elim q
/-! ### tests, calls, slices with a token out -/
section
variable {X : Cx}
def PTT (X : Cx) (e : Expr) (t : TT) : Prop := ∀ (pins : List (Addr × Obj)) (s : Shared) (σ : L2.St) (H : Hp) (Q : Bool → Hp → Prop), 1 ≤ s.toks → Inv X pins σ H s → t σ H Q → wpAny (model X.prog X.w) X.A (isTrue e X.env (eval e X.env)) (TP X pins σ Q) X.xe s
def PWT (X : Cx) (e : Expr) (t : TT) : Prop := ∀ (whole : Sem Value) (pins : List (Addr × Obj)) (s : Shared) (σ : L2.St) (H : Hp) (Q : Bool → Hp → Prop), 1 ≤ s.toks → Inv X pins σ H s → t σ H Q → wpAny (model X.prog X.w) X.A (isTrue e X.env whole) (TP X pins σ Q) X.xe s
theorem PWT.pt {e : Expr} {t : TT} (h : PWT X e t) : PTT X e t := h _
theorem ptt_val {e : Expr} {t : TE} (h : PET X e t) (he : ∀ whole, isTrue e X.env whole = (do let v ← whole; standAt e.pos; holding [v] (truthy v)) := by intro _; rfl) : PTT X e (tB t) := by
  intro pins s σ H Q ht I hw
  refine isTrue_plain (thn (h pins s σ H _ ht I hw) fun v s1 ⟨x, H1, I1, r1, q1⟩ => ?_) (he _)
  obtain ⟨d, rfl, q⟩ := q1
  cases r1
  exact wpAny_truthy_bool ⟨H1, I1, q⟩
theorem ptt_not {a : Expr} {tA : TT} {pos : Pos} (ha : PTT X a tA) : PTT X (.UnaryOp .Not a pos) (tNot tA) := by
  intro pins s σ H Q ht I h
  exact isTrue_not (ha pins s σ H (fun c H1 => Q (!c) H1) ht I h)
theorem pwt_or1 {a : Expr} {tA : TT} {pos : Pos} (ha : PTT X a tA) : PWT X (.BoolOp .Or [a] pos) tA := by
  intro wh pins s σ H Q ht I h
  refine isTrue_or (thn (ha pins s σ H Q ht I h) fun c s1 e => ?_)
  cases c with
  | false => exact isTrue_or_nil e
  | true => exact e
theorem pwt_or {a b : Expr} {rest : List Expr} {tA tB' : TT} {pos : Pos} (ha : PT X a tA) (hb : PWT X (.BoolOp .Or (b :: rest) pos) tB') : PWT X (.BoolOp .Or (a :: b :: rest) pos) (tOr tA tB') := by
  intro wh pins s σ H Q ht I h
  refine isTrue_or (wpAny_mono (wpAny_toks_of ht (ha.run pins s σ H _ I h)) (fun c s1 z => ?_) fun _ _ z => z.2)
  obtain ⟨ht1, H1, I1, q1⟩ := z
  cases c with
  | true => exact ⟨H1, I1, q1⟩
  | false => exact hb wh pins s1 σ H1 Q ht1 I1 q1
theorem pst_ifT {c : Expr} {a b : List Stmt} {tc : TT} {t u : TS} {pos : Pos} (hc : PTT X c tc) (ha : PSs X a t) (hb : PSs X b u) : PST X (.If c a b pos) (tIfS tc t u) := by
  intro pins s σ H D ht I h
  refine wpAny_If (thn (hc pins s σ H _ ht I h) fun d s1 ⟨H1, I1, q1⟩ => ?_)
  cases d with
  | true => exact ha.run pins s1 σ H1 D I1 q1
  | false => exact hb.run pins s1 σ H1 D I1 q1
theorem psst_s {st : Stmt} {rest : List Stmt} {t u : TS} (h1 : PS X st t) (h2 : PSsT X rest u) : PSsT X (st :: rest) (tSeq t u) := psst_cons (PST.of h1) h2
def noSt : Stmt := .Pass ⟨0, 0, 0, 0⟩
theorem drop_at : ∀ (l : List Stmt) (i : Nat), i < l.length → l.drop i = l.getD i noSt :: l.drop (i + 1)
  | [], i, h => absurd h (Nat.not_lt_zero _)
  | a :: l, 0, _ => rfl
  | a :: l, i + 1, h => drop_at l i (Nat.lt_of_succ_lt_succ h)
/-- PSsT behind a structure: a def that unfolds to a ∀ is walked by the elaborator after every application -/
structure PZ (X : Cx) (l : List Stmt) (t : TS) : Prop where
  run : PSsT X l t
structure PZ1 (X : Cx) (st : Stmt) (t : TS) : Prop where
  run : PST X st t
theorem PZ.of {l : List Stmt} {t : TS} (h : PSs X l t) : PZ X l t := ⟨PSsT.of h⟩
theorem pz_at1 {l : List Stmt} {i : Nat} {t u : TS} (h : i < l.length) (h1 : PZ1 X (l.getD i noSt) t) (h2 : PZ X (l.drop (i + 1)) u) : PZ X (l.drop i) (tSeq t u) := by
  refine ⟨?_⟩
  rw [drop_at l i h]
  exact psst_cons h1.run h2.run
theorem pz_at {l : List Stmt} {i : Nat} {t u : TS} (h : i < l.length) (h1 : PS X (l.getD i noSt) t) (h2 : PZ X (l.drop (i + 1)) u) : PZ X (l.drop i) (tSeq t u) := pz_at1 h ⟨PST.of h1⟩ h2
theorem pz_at0 {l : List Stmt} {t : TS} (h : PZ X (l.drop 0) t) : PZ X l t := h
theorem pz_ifT {c : Expr} {a b : List Stmt} {tc : TT} {t u : TS} {pos : Pos} (hc : PTT X c tc) (ha : PSs X a t) (hb : PSs X b u) : PZ1 X (.If c a b pos) (tIfS tc t u) := ⟨pst_ifT hc ha hb⟩
theorem pss_at {l : List Stmt} {i : Nat} {t u : TS} (h : i < l.length) (h1 : PS X (l.getD i noSt) t) (h2 : PSs X (l.drop (i + 1)) u) : PSs X (l.drop i) (tSeq t u) := by
  rw [drop_at l i h]
  exact pss_cons h1 h2
theorem pss_at0 {l : List Stmt} {t : TS} (h : PSs X (l.drop 0) t) : PSs X l t := h
theorem pet_slice {e : Expr} {te : TE} {lo hi : Option Expr} {tl th : TO} {p2 pos : Pos} {r : V → Option Int → Option Int → Hp → VK → Prop} (hr : SlR X r) (he : PET X e te) (hl : PO X lo tl) (hu : PO X hi th) : PET X (.Subscript e (.Slice lo hi none p2) pos) (tSl r te tl th) := by
  intro pins s σ H Q ht I h
  refine Subscript_ (thn (he pins s σ H _ ht I h) fun v s1 ⟨x, H1, I1, r1, q1⟩ => ?_)
  refine wpAny_Slice (thn (hl.run pins s1 σ H1 _ I1 q1) fun vl s2 ⟨l, H2, I2, pl, q2⟩ => thn (hu.run pins s2 σ H2 _ I2 q2) fun vu s3 ⟨u, H3, I3, pu, q3⟩ => ?_)
  rw [evalPart_none]
  refine wpAny_pure ?_
  have I4 : Inv X pins σ H3 { s3 with heap := s3.heap.push { cls := .type "slice", data := .fields #[vl, vu, .none] } } := I3.kept (t' := s3.toks) fun b ob q => Heap.get?_push_of_some _ q
  obtain ⟨T, id, hT, ht, hg⟩ := hr pins { s3 with heap := s3.heap.push { cls := .type "slice", data := .fields #[vl, vu, .none] } } σ H3 x v vl vu l u s3.heap.objs.size Q I4 r1 (Heap.IsSliceOf.new ..) pl pu q3
  show wpAny (model X.prog X.w) X.A (subscriptTail e (.Slice lo hi none p2) v (.ref s3.heap.objs.size)) (EP X pins σ Q) X.xe { s3 with heap := s3.heap.push { cls := .type "slice", data := .fields #[vl, vu, .none] } }
  exact tail_any (ops := [.ref s3.heap.objs.size, v]) ht hT hg (by with_unfolding_all rfl)
theorem pet_cal {x : Str} {ps : List Str} {sp : Sp} {k : Nat} {CX : CXT} {E : XK} {e : Expr} {es : List Expr} {t : TA} {p pos : Pos} (C : Cal X.prog X.w X.K X.mg X.base CX k x ps sp) (hr : Room k X.A) (hx : Passes CX X E) (ha : PAT X (e :: es) t) (hg : Gl X x := by rfl) (hdb : (x == ("__debug__" : Str)) = false := by decide)
    (hs : (e :: es).all nostar = true := by rfl) : PET X (.Call (.Name x p) (e :: es) [] pos) (tCall sp [] E t) := by
  obtain ⟨f, fd, g, kp, b, F⟩ := C.ex
  simp only [List.all_cons, Bool.and_eq_true] at hs
  intro pins s σ H Q ht I h
  refine wpAny_Call_Name_kw (ld_glob I hg g ?_ hdb)
  refine PySem.W.callWith_K (h₀ := X.base) I.ok.mod.kin kp (thn (ha pos pins s σ H _ ht I h) fun us s1 ⟨vs, H1, I1, r, q⟩ => ⟨I1.kIn, ?_⟩) (star_ok hs.1) (back_ok hs.2)
  exact run_fn F hr b .nil hx I1 r q
end
section
variable {P : Program} {w : World} {K : PySem.W.Frag} {mg : Str → Option Value} {base : Heap} {x x0 : Str} {st : Stmt} {N ps : List Str} {k : Nat} {sp : Sp}
theorem Src.calT (S : Src K mg x st) (sc : FnScope N (x0 :: ps) (defScope st)) (bn : BindP x st (x0 :: ps)) (h0 : (defScope st).names.lookup x0 = some .local) (len : ∀ vs H Q E, sp vs H Q E → vs.length = (x0 :: ps).length)
    (hbody : ∀ (f : Addr) (cdv : Value) (A : Around) (outer : List Env) (s : Shared) (H : Hp) (vs : List V) (Q : VK) (E : XK), Room k (A.deeper (envOfC x (defScope st) s.heap.objs.size f cdv)) → sp vs H Q E →
      ∃ t, PZ (cxOf CX0 P w K mg base N x (defScope st) f cdv A outer s H E) (defBody st) t ∧ t { nx := fun _ H' => Q .non H', rt := Q } (L2.start N vs) H) : Cal P w K mg base CX0 (k + 1) x (x0 :: ps) sp := by
  obtain ⟨f, fd, g, F⟩ := S
  refine ⟨f, fd, g, F.kp, F.bindsN bn, ?_⟩
  obtain ⟨oc, od, dV, kV, doc, pm, an, cdv, ct, osl, rfl, lk, hcd, _, _⟩ := F.ex
  exact fn_ofTC lk hcd sc h0 len fun A outer s H vs Q E hr hsp => by
    obtain ⟨t, h1, h2⟩ := hbody f cdv A outer s H vs Q E hr hsp
    exact ⟨t, h1.run, h2⟩
end
/-! ### the law's own def -/
section
variable {P : Program} {w : World} {K : PySem.W.Frag} {mg : Str → Option Value} {base : Heap} {x x0 : Str} {st : Stmt} {N ps : List Str} {k : Nat} {sp : Sp} {f : Addr} {fd : FuncData}
theorem lawT (F : FunD K x x (defArgs st) (defBody st) (defScope st) [] [] f fd) (sc : FnScope N (x0 :: ps) (defScope st)) (h0 : (defScope st).names.lookup x0 = some .local) (len : ∀ vs H Q E, sp vs H Q E → vs.length = (x0 :: ps).length)
    (hbody : ∀ (f : Addr) (cdv : Value) (A : Around) (outer : List Env) (s : Shared) (H : Hp) (vs : List V) (Q : VK) (E : XK), Room k (A.deeper (envOfC x (defScope st) s.heap.objs.size f cdv)) → sp vs H Q E →
      ∃ t, PZ (cxOf CX0 P w K mg base N x (defScope st) f cdv A outer s H E) (defBody st) t ∧ t { nx := fun _ H' => Q .non H', rt := Q } (L2.start N vs) H) : FnOk P w K mg base CX0 (k + 1) f fd (x0 :: ps) sp := by
  obtain ⟨oc, od, dV, kV, doc, pm, an, cdv, ct, osl, rfl, lk, hcd, _, _⟩ := F.ex
  exact fn_ofTC lk hcd sc h0 len fun A outer s H vs Q E hr hsp => by
    obtain ⟨t, h1, h2⟩ := hbody f cdv A outer s H vs Q E hr hsp
    exact ⟨t, h1.run, h2⟩
theorem law0 (F : FunD K x x (defArgs st) (defBody st) (defScope st) [] [] f fd) (sc : FnScope N ps (defScope st)) (len : ∀ vs H Q E, sp vs H Q E → vs.length = ps.length)
    (hbody : ∀ (f : Addr) (cdv : Value) (A : Around) (outer : List Env) (s : Shared) (H : Hp) (vs : List V) (Q : VK) (E : XK), Room k (A.deeper (envOfC x (defScope st) s.heap.objs.size f cdv)) → sp vs H Q E →
      ∃ t, PSs (cxOf CX0 P w K mg base N x (defScope st) f cdv A outer s H E).nox (defBody st) t ∧ t { nx := fun _ H' => Q .non H', rt := Q } (L2.start N vs) H) : FnOk P w K mg base CX0 (k + 1) f fd ps sp := by
  refine F.ok sc len fun cdv A outer s H vs Q E hr hsp => ?_
  obtain ⟨t, h, q⟩ := hbody f cdv A outer s H vs Q E hr hsp
  exact ⟨t, h.nox, q⟩
theorem cst_int {i : Int} (h : ∃ t, mg x = some (.int i t)) : Cst mg x (.int i) := by
  obtain ⟨t, h⟩ := h
  exact ⟨_, h, ⟨t, rfl⟩⟩
theorem cst_str {z : Str} (h : ∃ t, mg x = some (.str z t)) : Cst mg x (.str z) := by
  obtain ⟨t, h⟩ := h
  exact ⟨_, h, ⟨t, rfl⟩⟩
end
end Fx
namespace K07
open PySem PySem.Spec PyProof.Rows L2 Fx
def top (i : Nat) : Stmt := PySem.Challenge.pw_fablemill_k07_codes_and_texts.main.body.getD i (.Pass ⟨0, 0, 0, 0⟩)
abbrev s_check_text : Stmt := top 12
abbrev N_check_text : List Str := ["text", "place", "sign"]
theorem sc_check_text : FnScope N_check_text ["text"] (defScope s_check_text) := ⟨rfl, rfl, rfl, by decide +kernel, rfl, by decide +kernel, by decide +kernel⟩
theorem bn_check_text : BindP "check_text" s_check_text ["text"] := fun _ _ _ _ _ _ us hl => match us, hl with | [_], _ => rfl
abbrev s_codes : Stmt := top 13
abbrev N_codes : List Str := ["sign", "place"]
theorem sc_codes : FnScope N_codes ["sign"] (defScope s_codes) := ⟨rfl, rfl, rfl, by decide +kernel, rfl, by decide +kernel, by decide +kernel⟩
theorem bn_codes : BindP "codes" s_codes ["sign"] := fun _ _ _ _ _ _ us hl => match us, hl with | [_], _ => rfl
abbrev s__law_bag : Stmt := top 15
abbrev N__law_bag : List Str := ["_law_script", "_law_mixed", "_law_cell"]
theorem sc__law_bag : FnScope N__law_bag ["_law_script"] (defScope s__law_bag) := ⟨rfl, rfl, rfl, by decide +kernel, rfl, by decide +kernel, by decide +kernel⟩
theorem bn__law_bag : BindP "_law_bag" s__law_bag ["_law_script"] := fun _ _ _ _ _ _ us hl => match us, hl with | [_], _ => rfl
abbrev s__law_pick : Stmt := top 16
abbrev N__law_pick : List Str := ["_law_bag_here", "_law_many", "_law_number", "_law_cell"]
theorem sc__law_pick : FnScope N__law_pick ["_law_bag_here", "_law_many"] (defScope s__law_pick) := ⟨rfl, rfl, rfl, by decide +kernel, rfl, by decide +kernel, by decide +kernel⟩
theorem bn__law_pick : BindP "_law_pick" s__law_pick ["_law_bag_here", "_law_many"] := fun _ _ _ _ _ _ us hl => match us, hl with | [_, _], _ => rfl
abbrev s__law_choice : Stmt := top 17
abbrev N__law_choice : List Str := ["_law_bag_here", "_law_things"]
theorem sc__law_choice : FnScope N__law_choice ["_law_bag_here", "_law_things"] (defScope s__law_choice) := ⟨rfl, rfl, rfl, by decide +kernel, rfl, by decide +kernel, by decide +kernel⟩
theorem bn__law_choice : BindP "_law_choice" s__law_choice ["_law_bag_here", "_law_things"] := fun _ _ _ _ _ _ us hl => match us, hl with | [_, _], _ => rfl
abbrev s__law_integer : Stmt := top 18
abbrev N__law_integer : List Str := ["_law_thing"]
theorem sc__law_integer : FnScope N__law_integer ["_law_thing"] (defScope s__law_integer) := ⟨rfl, rfl, rfl, by decide +kernel, rfl, by decide +kernel, by decide +kernel⟩
theorem bn__law_integer : BindP "_law_integer" s__law_integer ["_law_thing"] := fun _ _ _ _ _ _ us hl => match us, hl with | [_], _ => rfl
abbrev s__law_signs : Stmt := top 19
abbrev N__law_signs : List Str := []
theorem sc__law_signs : FnScope N__law_signs [] (defScope s__law_signs) := ⟨rfl, rfl, rfl, by decide +kernel, rfl, by decide +kernel, by decide +kernel⟩
theorem bn__law_signs : BindP "_law_signs" s__law_signs [] := fun _ _ _ _ _ _ us hl => match us, hl with | [], _ => rfl
abbrev s__law_codes : Stmt := top 20
abbrev N__law_codes : List Str := ["_law_sign_here", "_law_rows", "_law_k", "_law_place"]
theorem sc__law_codes : FnScope N__law_codes ["_law_sign_here"] (defScope s__law_codes) := ⟨rfl, rfl, rfl, by decide +kernel, rfl, by decide +kernel, by decide +kernel⟩
theorem bn__law_codes : BindP "_law_codes" s__law_codes ["_law_sign_here"] := fun _ _ _ _ _ _ us hl => match us, hl with | [_], _ => rfl
abbrev s__law_sign : Stmt := top 21
abbrev N__law_sign : List Str := ["_law_bag_here"]
theorem sc__law_sign : FnScope N__law_sign ["_law_bag_here"] (defScope s__law_sign) := ⟨rfl, rfl, rfl, by decide +kernel, rfl, by decide +kernel, by decide +kernel⟩
theorem bn__law_sign : BindP "_law_sign" s__law_sign ["_law_bag_here"] := fun _ _ _ _ _ _ us hl => match us, hl with | [_], _ => rfl
abbrev s__law_numbers : Stmt := top 22
abbrev N__law_numbers : List Str := ["_law_actual", "_law_due", "_law_number"]
theorem sc__law_numbers : FnScope N__law_numbers ["_law_actual", "_law_due"] (defScope s__law_numbers) := ⟨rfl, rfl, rfl, by decide +kernel, rfl, by decide +kernel, by decide +kernel⟩
theorem bn__law_numbers : BindP "_law_numbers" s__law_numbers ["_law_actual", "_law_due"] := fun _ _ _ _ _ _ us hl => match us, hl with | [_, _], _ => rfl
abbrev s__law_long_text : Stmt := top 23
abbrev N__law_long_text : List Str := ["_law_bag_here", "_law_text", "_law_step", "_law_ending", "_law_at"]
theorem sc__law_long_text : FnScope N__law_long_text ["_law_bag_here"] (defScope s__law_long_text) := ⟨rfl, rfl, rfl, by decide +kernel, rfl, by decide +kernel, by decide +kernel⟩
theorem bn__law_long_text : BindP "_law_long_text" s__law_long_text ["_law_bag_here"] := fun _ _ _ _ _ _ us hl => match us, hl with | [_], _ => rfl
abbrev s__law_check : Stmt := top 24
abbrev N__law_check : List Str := ["_law_thing", "_law_answer", "e"]
theorem sc__law_check : FnScope N__law_check ["_law_thing"] (defScope s__law_check) := ⟨rfl, rfl, rfl, by decide +kernel, rfl, by decide +kernel, by decide +kernel⟩
theorem bn__law_check : BindP "_law_check" s__law_check ["_law_thing"] := fun _ _ _ _ _ _ us hl => match us, hl with | [_], _ => rfl
abbrev s__law_refused : Stmt := top 25
abbrev N__law_refused : List Str := ["_law_thing", "_law_place", "_law_actual"]
theorem sc__law_refused : FnScope N__law_refused ["_law_thing", "_law_place"] (defScope s__law_refused) := ⟨rfl, rfl, rfl, by decide +kernel, rfl, by decide +kernel, by decide +kernel⟩
theorem bn__law_refused : BindP "_law_refused" s__law_refused ["_law_thing", "_law_place"] := fun _ _ _ _ _ _ us hl => match us, hl with | [_, _], _ => rfl
abbrev s__law_judged : Stmt := top 26
abbrev N__law_judged : List Str := ["_law_text"]
theorem sc__law_judged : FnScope N__law_judged ["_law_text"] (defScope s__law_judged) := ⟨rfl, rfl, rfl, by decide +kernel, rfl, by decide +kernel, by decide +kernel⟩
theorem bn__law_judged : BindP "_law_judged" s__law_judged ["_law_text"] := fun _ _ _ _ _ _ us hl => match us, hl with | [_], _ => rfl
abbrev s_law : Stmt := top 27
abbrev N_law : List Str := ["_law_script", "_law_bag_here", "_law_asked", "_law_sign_here", "_law_text", "_law_odd", "_law_step"]
theorem sc_law : FnScope N_law ["_law_script"] (defScope s_law) := ⟨rfl, rfl, rfl, by decide +kernel, rfl, by decide +kernel, by decide +kernel⟩
theorem bn_law : BindP "law" s_law ["_law_script"] := fun _ _ _ _ _ _ us hl => match us, hl with | [_], _ => rfl
structure Tx (P : Program) (K : PySem.W.Frag) (mg : Str → Option Value) : Prop where
  b_ValueError : mg "ValueError" = none
  b_all : mg "all" = none
  b_bool : mg "bool" = none
  b_enumerate : mg "enumerate" = none
  b_int : mg "int" = none
  b_isinstance : mg "isinstance" = none
  b_len : mg "len" = none
  b_list : mg "list" = none
  b_ord : mg "ord" = none
  b_range : mg "range" = none
  b_str : mg "str" = none
  b_tuple : mg "tuple" = none
  b_super : mg "super" = none
  c_LONGEST : Cst mg "LONGEST" (.int 200)
  c_ROW1 : Cst mg "ROW1" (.str " etaonisrhld")
  c_ROW2 : Cst mg "ROW2" (.str "cumfpgwybvkxjqz.")
  c_ROW3 : Cst mg "ROW3" (.str "0123456789\n,'-!?")
  c_SIGNS : Cst mg "SIGNS" (.str " !\"#$\n&'()*+,-./0123456789:;<=>?@ABCDEFGHIJKLMNOPQRSTUVWXYZ[\\]^_`abcdefghijklmnopqrstuvwxyz{|}~")
  g_BadLot : mg "BadLot" = some (.ref (He.ga K "BadLot"))
  x_BadLot : XC K P "BadLot" "word" (He.ga K "BadLot")
  e_BadLot : ExcC K (He.ga K "BadLot")
  g_BadText : mg "BadText" = some (.ref (He.ga K "BadText"))
  x_BadText : XC K P "BadText" "place" (He.ga K "BadText")
  e_BadText : ExcC K (He.ga K "BadText")
  g_BadWord : mg "BadWord" = some (.ref (He.ga K "BadWord"))
  x_BadWord : XC K P "BadWord" "word" (He.ga K "BadWord")
  e_BadWord : ExcC K (He.ga K "BadWord")
  g_FableError : mg "FableError" = some (.ref (He.ga K "FableError"))
  g_TooMany : mg "TooMany" = some (.ref (He.ga K "TooMany"))
  x_TooMany : XC K P "TooMany" "kind" (He.ga K "TooMany")
  e_TooMany : ExcC K (He.ga K "TooMany")
  k_BadText : PySem.W.kitOne K (.ref (He.ga K "BadText")) (.ref (He.ga K "BadText")) = some true
  k_VE : PySem.W.kitOne K (.ref (He.ga K "BadText")) (.type "ValueError") = some true
  k_BadLot : PySem.W.kitOne K (.ref (He.ga K "BadText")) (.ref (He.ga K "BadLot")) = some false
  k_BadWord : PySem.W.kitOne K (.ref (He.ga K "BadText")) (.ref (He.ga K "BadWord")) = some false
  k_TooMany : PySem.W.kitOne K (.ref (He.ga K "BadText")) (.ref (He.ga K "TooMany")) = some false
  m_FableError : PySem.W.exmOne K (.ref (He.ga K "BadText")) (.ref (He.ga K "FableError")) = some true
def rowA : Str := " etaonisrhld"
def rowB : Str := "cumfpgwybvkxjqz."
def rowC : Str := "0123456789\n,'-!?"
def signs1 : Str := " !\"#$\n&'()*+,-./0123456789:;<=>?@ABCDEFGHIJKLMNOPQRSTUVWXYZ[\\]^_`abcdefghijklmnopqrstuvwxyz{|}~"
def signs2 : Str := " !\"#$&'()*+,-./0123456789:;<=>?@ABCDEFGHIJKLMNOPQRSTUVWXYZ[\\]^_`abcdefghijklmnopqrstuvwxyz{|}~\n"
abbrev S1 (c : Nat) : Str := ⟨#[c]⟩
/-- the half bytes of a sign -/
def codeL (c : Nat) : List Int :=
  if 0 ≤ Txt.find rowA (S1 c) then [Txt.find rowA (S1 c)]
  else if 0 ≤ Txt.find rowB (S1 c) then [12, Txt.find rowB (S1 c)]
  else if 0 ≤ Txt.find rowC (S1 c) then [13, Txt.find rowC (S1 c)]
  else [15, (c : Int) / 16, (c : Int) % 16]
def spCodes : Sp := fun vs H Q _ => ∃ c : Nat, vs = [.str (S1 c)] ∧ ∀ (p : Addr) (H' : Hp), Same H H' → H p = none → H' p = some (.tup ((codeL c).map V.int)) → Q (.ref p) H'
def spLCodes : Sp := fun vs H Q _ => ∃ c : Nat, vs = [.str (S1 c)] ∧ ∀ (p : Addr) (H' : Hp), Same H H' → H p = none → H' p = some (.lst ((codeL c).map V.int)) → Q (.ref p) H'
def spChoiceS : Sp := fun vs H Q _ => ∃ (b : Addr) (z : Str), vs = [.ref b, .str z] ∧ Bag H b ∧ 0 < z.length ∧ z.length ≤ 100000 ∧ ∀ (c : Nat) (H' : Hp), c ∈ z.cps.toList → Kp b H H' → Q (.str (S1 c)) H'
def spInteger : Sp := fun vs H Q _ => ∃ i : Int, vs = [.int i] ∧ Q (.bl true) H
def spSigns : Sp := fun vs H Q _ => vs = [] ∧ Q (.str signs2) H
def spSign : Sp := fun vs H Q _ => ∃ b : Addr, vs = [.ref b] ∧ Bag H b ∧ ∀ (c : Nat) (H' : Hp), c ∈ signs2.cps.toList → Kp b H H' → Q (.str (S1 c)) H'
def spNumbers : Sp := fun vs H Q _ => ∃ (a d : Addr) (ns : List Int), vs = [.ref a, .ref d] ∧ H a = some (.tup (ns.map V.int)) ∧ H d = some (.lst (ns.map V.int)) ∧ ns.length ≤ 1000 ∧ ∀ H', Same H H' → Q (.bl true) H'
/-- signs and tabs, not too many -/
structure TextOk (z : Str) : Prop where
  len : z.length ≤ 1000
  all : ∀ c ∈ z.cps.toList, c ∈ signs2.cps.toList ∨ c = 9
def spLong : Sp := fun vs H Q _ => ∃ b : Addr, vs = [.ref b] ∧ Bag H b ∧ ∀ (z : Str) (H' : Hp), TextOk z → Kp b H H' → Q (.str z) H'
def firstBad : List Nat → Nat → Option Int
  | [], _ => none
  | c :: r, i => if c ∈ signs1.cps.toList then firstBad r (i + 1) else some i
def judge (z : Str) : Option Int := if 200 < z.length then some (-1) else firstBad z.cps.toList 0
def JudgedBy (H : Hp) (v : V) (r : Option Int) : Prop := (∃ z, v = .str z ∧ z.length ≤ 100000 ∧ r = judge z) ∨ (∃ t, tyv H v = some t ∧ kitB t "str" = some false ∧ r = some (-1))
def ansV : Option Int → List V
  | none => [.str "fine"]
  | some i => [.str "refused", .int i]
def spCT (K : PySem.W.Frag) : Sp := fun vs H Q E => ∃ (v : V) (r : Option Int), vs = [v] ∧ JudgedBy H v r ∧ (r = none → ∀ H', Same H H' → Q .non H') ∧
  (∀ i, r = some i → ∀ d H', Same H H' → H d = none → H' d = some (.xd [("place", .int i)]) → E (.ref (He.ga K "BadText")) (some d) H')
def spCheck : Sp := fun vs H Q _ => ∃ (v : V) (r : Option Int), vs = [v] ∧ JudgedBy H v r ∧ ∀ p H', Same H H' → H p = none → H' p = some (.lst (ansV r)) → Q (.ref p) H'
def spRefused : Sp := fun vs H Q _ => ∃ (v : V) (i : Int), vs = [v, .int i] ∧ JudgedBy H v (some i) ∧ ∀ H', Same H H' → Q (.bl true) H'
def spJudged : Sp := fun vs H Q _ => ∃ z : Str, vs = [.str z] ∧ TextOk z ∧ ∀ H', Same H H' → Q (.bl true) H'
def spLaw (K : PySem.W.Frag) : Sp := fun vs H Q _ => ∃ (a : Addr) (ns : List Int), vs = [.ref a] ∧ SqL K H a (ns.map V.int) ∧ ns.length ≤ 1000 ∧ ∀ H', Q (.bl true) H'
theorem atI_ok {xs : List Int} {a : Int} (h0 : 0 ≤ a) (h : a < ((xs.map V.int).length : Nat)) : ∃ n, atI (xs.map V.int) a = some (.int n) := by
  rw [List.length_map] at h
  have e : ixN (xs.map V.int).length a = some a.toNat := by
    unfold ixN
    rw [if_pos h0, if_pos (by rw [List.length_map]; exact h)]
  unfold atI
  rw [e]
  have hl : a.toNat < xs.length := by omega
  exact ⟨xs[a.toNat], by simp [hl]⟩
theorem atI_mem {α : Type} {xs : List α} {a : Int} (h0 : 0 ≤ a) (h : a < (xs.length : Nat)) : ∃ c, atI xs a = some c ∧ c ∈ xs := by
  have e : ixN xs.length a = some a.toNat := by
    unfold ixN
    rw [if_pos h0, if_pos h]
  unfold atI
  rw [e]
  have hl : a.toNat < xs.length := by omega
  exact ⟨xs[a.toNat], by simp [hl], List.getElem_mem hl⟩
theorem foldl_app {α : Type} : ∀ (n : Nat) (x acc : Array α), ((List.replicate n x).foldl (· ++ ·) acc).toList = acc.toList ++ (List.replicate n x.toList).flatten
  | 0, x, acc => by simp
  | n + 1, x, acc => by
    rw [List.replicate_succ, List.foldl_cons, foldl_app n x (acc ++ x), List.replicate_succ, List.flatten_cons, Array.toList_append, List.append_assoc]
theorem mul_list (z : Str) (n : Int) (h0 : 0 ≤ n) : (Txt.mul z n).cps.toList = (List.replicate n.toNat z.cps.toList).flatten := by
  unfold Txt.mul
  by_cases h1 : n < 1
  · have e : n.toNat = 0 := by omega
    rw [if_pos h1, e]
    rfl
  · rw [if_neg h1]
    by_cases h2 : (n == 1 || z.length == 0) = true
    · rw [if_pos h2]
      simp only [Bool.or_eq_true, beq_iff_eq] at h2
      rcases h2 with h2 | h2
      · subst h2
        simp
      · have e : z.cps.toList = [] := List.eq_nil_of_length_eq_zero (by rw [Array.length_toList]; exact h2)
        rw [e]
        simp
    · rw [if_neg h2, foldl_app]
      simp
theorem mul_one (c : Nat) (k : Int) (k0 : 0 ≤ k) : (Txt.mul (S1 c) k).length = k.toNat ∧ (∀ x ∈ (Txt.mul (S1 c) k).cps.toList, x = c) := by
  have e := mul_list (S1 c) k k0
  have e2 : (List.replicate k.toNat [c]).flatten = List.replicate k.toNat c := by
    generalize k.toNat = n
    induction n with
    | zero => rfl
    | succ n ih => rw [List.replicate_succ, List.flatten_cons, ih, List.replicate_succ]; rfl
  have e3 : (Txt.mul (S1 c) k).cps.toList = List.replicate k.toNat c := e.trans e2
  constructor
  · show (Txt.mul (S1 c) k).cps.size = _
    rw [← Array.length_toList, e3, List.length_replicate]
  · rw [e3]
    intro x hx
    exact (List.mem_replicate.mp hx).2
theorem len_app (a b : Str) : (a ++ b).length = a.length + b.length := by
  show (a.cps ++ b.cps).size = _
  rw [Array.size_append]
  rfl
theorem list_app (a b : Str) : (a ++ b).cps.toList = a.cps.toList ++ b.cps.toList := Array.toList_append
theorem cut_sub {z : Str} {lo hi : Option Int} {c : Nat} (h : c ∈ (cutS z lo hi).cps.toList) : c ∈ z.cps.toList := by
  unfold cutS at h
  exact List.mem_of_mem_drop (List.mem_of_mem_take (by simpa using h))
theorem sIx_nat' {n d : Nat} {x : Int} (h0 : 0 ≤ x) : HT.sIx n d (some x) = min x.toNat n := by
  have e : x = (x.toNat : Int) := by omega
  rw [e]
  exact HT.sIx_nat n d x.toNat
theorem cutS_len (z : Str) (lo hi : Option Int) : (cutS z lo hi).length = min (HT.sIx z.length z.length hi - HT.sIx z.length 0 lo) (z.length - HT.sIx z.length 0 lo) := by
  show (cutS z lo hi).cps.size = _
  unfold cutS
  rw [List.size_toArray, List.length_take, List.length_drop, Array.length_toList]
  rfl
theorem cut_hi (z : Str) (x : Int) (h0 : 0 ≤ x) : (cutS z none (some x)).length ≤ x.toNat := by
  rw [cutS_len, sIx_nat' h0, HT.sIx_none]
  omega
theorem cut_two (z : Str) (x : Int) (h0 : 0 ≤ x) (h1 : x ≤ z.length) : (cutS z none (some x)).length + (cutS z (some x) none).length = z.length := by
  rw [cutS_len, cutS_len, sIx_nat' h0, sIx_nat' h0, HT.sIx_none, HT.sIx_none]
  omega
theorem signs_sub : ∀ c ∈ signs2.cps.toList, c ∈ signs1.cps.toList := by decide +kernel
theorem nine_out : 9 ∉ signs1.cps.toList := by decide +kernel
theorem at1 (z : Str) (c i : Nat) : StrLaws.At z (S1 c) z.length i ↔ z.cps.toList[i]? = some c := by
  have e := TL.at_iff (x := z) (y := S1 c) (by intro h; cases h) i
  rw [e]
  show ((((z.cps.toList).drop i).take 1) == [c]) = true ↔ _
  rw [beq_iff_eq]
  cases h : z.cps.toList.drop i with
  | nil =>
    have hl : z.cps.toList.length ≤ i := List.drop_eq_nil_iff.mp h
    rw [List.getElem?_eq_none hl]
    simp
  | cons d r =>
    have h0 : z.cps.toList[i]? = some d := by
      rw [← Nat.add_zero i, ← List.getElem?_drop, h]
      rfl
    rw [h0]
    simp
theorem firstBad_none : ∀ (l : List Nat) (k : Nat), (∀ c ∈ l, c ∈ signs1.cps.toList) → firstBad l k = none
  | [], _, _ => rfl
  | c :: r, k, h => by
    show (if c ∈ signs1.cps.toList then firstBad r (k + 1) else some (k : Int)) = none
    rw [if_pos (h c (List.mem_cons_self ..))]
    exact firstBad_none r (k + 1) fun x hx => h x (List.mem_cons_of_mem _ hx)
theorem firstBad_at : ∀ (l : List Nat) (k i : Nat), l[i]? = some 9 → (∀ j, j < i → ∀ c, l[j]? = some c → c ∈ signs1.cps.toList) → firstBad l k = some ((k + i : Nat) : Int)
  | [], _, _, h, _ => by simp at h
  | c :: r, k, 0, h, _ => by
    have e : c = 9 := by simpa using h
    show (if c ∈ signs1.cps.toList then firstBad r (k + 1) else some (k : Int)) = _
    rw [if_neg (by rw [e]; exact nine_out)]
    simp
  | c :: r, k, i + 1, h, hb => by
    show (if c ∈ signs1.cps.toList then firstBad r (k + 1) else some (k : Int)) = _
    rw [if_pos (hb 0 (by omega) c (by simp)), firstBad_at r (k + 1) i (by simpa using h) (fun j hj x hx => hb (j + 1) (by omega) x (by simpa using hx))]
    congr 1
    omega
theorem no_tab {z : Str} (h : ∀ c ∈ z.cps.toList, c ∈ signs2.cps.toList ∨ c = 9) (h9 : ¬ 9 ∈ z.cps.toList) : none = firstBad z.cps.toList 0 := by
  refine (firstBad_none _ _ fun c hc => ?_).symm
  rcases h c hc with g | g
  · exact signs_sub c g
  · exact absurd (g ▸ hc) h9
theorem tab_found {z : Str} (h : ∀ c ∈ z.cps.toList, c ∈ signs2.cps.toList ∨ c = 9) (h9 : 9 ∈ z.cps.toList) : some (Txt.find z "\t") = firstBad z.cps.toList 0 := by
  have e : (("\t" : Str)) = S1 9 := rfl
  rw [e]
  rcases PyProof.Rows.find_whole z (S1 9) with ⟨_, hn⟩ | ⟨i, hf, ha, hb⟩
  · obtain ⟨i, hi⟩ := List.mem_iff_getElem?.mp h9
    exact absurd ((at1 z 9 i).mpr hi) (hn i)
  · rw [hf, firstBad_at _ 0 i ((at1 z 9 i).mp ha) (fun j hj c hc => ?_)]
    · simp
    · rcases h c (List.mem_of_getElem? hc) with g | g
      · exact signs_sub c g
      · exact absurd ((at1 z 9 j).mpr (g ▸ hc)) (hb j hj)
theorem repl_tab : ∀ l : List Nat, (∀ c ∈ StrLaws.replL [9] [] l, c ∈ l) ∧ (StrLaws.replL [9] [] l).length ≤ l.length
  | [] => by rw [StrLaws.replL_nil]; exact ⟨fun _ h => h, Nat.le_refl _⟩
  | c :: r => by
    obtain ⟨h1, h2⟩ := repl_tab r
    by_cases h : (c :: r).take ([9] : List Nat).length = [9]
    · rw [StrLaws.replL_hit (by intro z; cases z) h]
      exact ⟨fun x hx => List.mem_cons_of_mem _ (h1 x hx), Nat.le_succ_of_le h2⟩
    · rw [StrLaws.replL_miss h]
      refine ⟨fun x hx => ?_, Nat.succ_le_succ h2⟩
      rcases List.mem_cons.mp hx with e | hx
      · rw [e]
        exact List.mem_cons_self ..
      · exact List.mem_cons_of_mem _ (h1 x hx)
theorem repl_ok {z : Str} (h : TextOk z) : TextOk (Txt.replace z "\t" "") := by
  have e := StrLaws.replace_list (x := z) (y := "\t") (z := "") (by decide)
  have e2 : (Txt.replace z "\t" "").cps.toList = StrLaws.replL [9] [] z.cps.toList := e
  obtain ⟨h1, h2⟩ := repl_tab z.cps.toList
  refine ⟨?_, fun c hc => ?_⟩
  · show (Txt.replace z "\t" "").cps.size ≤ _
    rw [← Array.length_toList, e2]
    exact Nat.le_trans h2 (by rw [Array.length_toList]; exact h.len)
  · rw [e2] at hc
    exact h.all c (h1 c hc)
theorem cut_ok {z : Str} {lo hi : Option Int} (h : TextOk z) : TextOk (cutS z lo hi) := by
  refine ⟨?_, fun c hc => h.all c (cut_sub hc)⟩
  rw [cutS_len]
  have := h.len
  omega
theorem fine_ok : isF (.str "fine") = true := by decide +kernel
theorem ref_ok : isF (.str "refused") = true := by decide +kernel
theorem ans_ok : ∀ r, (ansV r).all isF = true
  | none => by
    show (isF (.str "fine") && true) = true
    rw [fine_ok]
    rfl
  | some i => by
    show (isF (.str "refused") && (true && true)) = true
    rw [ref_ok]
    rfl
local macro_rules | `(tactic| walk_at "rd") => `(tactic| try simp only [cx_K, L2.start, List.map_cons, List.map_nil, List.length_cons, List.length_nil, List.cons_append, List.nil_append, List.append_nil, Nat.reduceAdd, Nat.reduceSub, List.replicate, tSeq, tIfS, tTest, tB, tOp, tVar, tC, tAsg, gName, tRet, tRetN, tDrop, tCB, tCons, tNil, rI0, rI, tNext, tNot, tAnd, tOr, tIf, tAndV, tOrV, tNotV, tUn, rU, tDGet, sDPut, tCall, tCallS, tTup, tLst, tSl, tPart, tNoPart, rSlS, tM0, tM1, rIxLt, rIxTt, rIxSt, rLenL, rLenT, rLenS, rIntI, rOrd, rSlLt, rLstL, rLstT, rAllL, rAnyL, rMulS, rIsB, tYes, wipe, rEqL, rEq, rNe, scal, tyv_non, tyv_bl, tyv_int, tyv_str, kb_int_int, kb_int_bool, kb_bool_int, kb_bool_bool, kb_str_str, kb_int_str, kb_bool_str, kb_none_str, kb_list_str, kb_tuple_str, kb_dict_str, kb_tuple_tuple, kb_list_list, List.getElem?_cons_zero, List.getElem?_cons_succ, List.set_cons_zero, List.set_cons_succ, Option.some.injEq, V.int.injEq, V.str.injEq, V.bl.injEq, V.ref.injEq, V.ty.injEq, HO.lst.injEq, HO.tup.injEq, List.cons.injEq, reduceCtorEq, false_and, and_false, or_false, false_or, exists_false, and_true, true_and, exists_and_left, exists_eq_left, exists_eq_left', exists_eq, exists_eq', and_assoc, ite_dec, ite_ndec, upd_same, if_true, Bool.false_eq_true, if_false, Bool.not_true, Bool.not_false])
section
variable {P : Program} {w : World} {K : PySem.W.Frag} {mg : Str → Option Value} {base : Heap}
theorem ok_check_text (S : Src K mg "check_text" s_check_text) (T : Tx P K mg)   : Cal P w K mg base (L2.CX P w) 3 "check_text" ["text"] (spCT K) := by
  refine S.calX sc_check_text bn_check_text (fun vs H Q E h => ?_) (fun f cdv A outer s H vs Q E hr h => ?_)
  · first | (obtain ⟨rfl, _⟩ := h; rfl) | (obtain ⟨_, rfl, _⟩ := h; rfl) | (obtain ⟨_, _, rfl, _⟩ := h; rfl) | (obtain ⟨_, _, _, rfl, _⟩ := h; rfl) | (obtain ⟨_, _, _, _, rfl, _⟩ := h; rfl) | (obtain ⟨_, _, _, _, _, rfl, _⟩ := h; rfl) | (obtain ⟨_, _, _, _, _, _, rfl, _⟩ := h; rfl)
  · skip
    refine ⟨_, (pss_cons (ps_if (PW.pt (pw_or (pt_not (pt_val (Fx.pe_cB Fx.is_B T.b_isinstance (by decide +kernel) (Fx.pa_c (pv 0) (Fx.pa_c (pe_bltn (v := .ty "str") (by rfl) T.b_str (by decide +kernel) rfl) pa_nil))))) (pw_or1 (pt_cmpR op_gt (Fx.pe_cB Fx.len_S T.b_len (by decide +kernel) (Fx.pa_c (pv 0) pa_nil)) (Fx.pe_cst T.c_LONGEST) (nomark _))))) (pss_one (Fx.ps_raiseFx rfl T.x_BadText T.g_BadText T.b_super hr (takes_of rfl rfl rfl rfl) (Fx.pa_c (pe_un un_neg pe_int) pa_nil))) pss_nil)
        (pss_one (ps_for (passes_of rfl) rfl (Fx.pi_enumS rfl T.b_enumerate (Fx.pa_c (pv 0) pa_nil)) (pg_tup rfl (pgs_cons (pg_name (i := 1) sc_check_text.nd rfl (Or.inl rfl)) (pgs_cons (pg_name (i := 2) sc_check_text.nd rfl (Or.inl rfl)) pgs_nil))) (pss_one (ps_if (pt_cmpR op_notIn_sign (pv 2) (Fx.pe_cst T.c_SIGNS) rfl) (pss_one (Fx.ps_raiseFx rfl T.x_BadText T.g_BadText T.b_super hr (takes_of rfl rfl rfl rfl) (Fx.pa_c (pv 1) pa_nil))) pss_nil))))), ?_⟩
    obtain ⟨v, r, rfl, hj, qn, qe⟩ := h
    refine seqI fun K1 k1 => ?_
    rcases hj with ⟨z, rfl, hz, rfl⟩ | ⟨t, ht, hk, rfl⟩
    · walk_at "rd"
      simp only [tRaiseFx, tMkFx]
      walk_at "rd"
      refine ⟨sz hz, ite_i (fun hl => fun d nd => qe (-1) ?_ d _ (same_new nd) nd upd_same) (fun hl => k1 _ _ ?_)⟩
      · unfold judge
        rw [if_pos (by omega)]
      · clear k1
        have ej : judge z = firstBad z.cps.toList 0 := by
          unfold judge
          rw [if_neg (by omega)]
        refine ⟨.str z, rfl, z, rfl, for_enumS (z := z) (fun i σ H' => ∃ v1 v2, σ = [some (.str z), v1, v2] ∧ Same H H' ∧ firstBad z.cps.toList 0 = firstBad (z.cps.toList.drop i) i) ⟨none, none, rfl, Same.refl H, rfl⟩ ?_ ?_⟩
        · rintro i c T' σ H' hc ⟨v1, v2, rfl, sH, eb⟩ nT
          have sT := same_new (o := .tup [.int (i : Nat), .str ⟨#[c]⟩]) nT
          refine ⟨T', _, rfl, .inl (.inl upd_same), rfl, _, _, rfl, _, _, rfl, rfl, ?_⟩
          walk_at "rd"
          have hc2 : z.cps.toList[i]? = some c := by rw [Array.getElem?_toList]; exact hc
          have ed : z.cps.toList.drop i = c :: z.cps.toList.drop (i + 1) := by
            obtain ⟨hlt, e⟩ := List.getElem?_eq_some_iff.mp hc2
            rw [List.drop_eq_getElem_cons hlt, e]
          refine ⟨c, rfl, ?_⟩
          walk_at "rd"
          simp only [tRaiseFx, tMkFx]
          walk_at "rd"
          refine ite_i (fun hin => ⟨sH.trans sT, ?_⟩) (fun hin => fun d nd => qe i ?_ d _ ((sH.trans sT).trans (same_new nd)) ((sH.trans sT).free nd) upd_same)
          · rw [eb, ed]
            show (if c ∈ signs1.cps.toList then _ else _) = _
            rw [if_pos (show c ∈ signs1.cps.toList from hin)]
          · rw [ej, eb, ed]
            show (if c ∈ signs1.cps.toList then _ else _) = _
            rw [if_neg (show ¬ c ∈ signs1.cps.toList from hin)]
        · rintro σ H' ⟨v1, v2, rfl, sH, eb⟩
          refine qn ?_ H' sH
          rw [ej, eb, List.drop_of_length_le (by rw [Array.length_toList]; exact Nat.le_refl _)]
          rfl
    · walk_at "rd"
      simp only [ht, hk, Option.some.injEq, exists_eq_left', Bool.not_false, if_true, tRaiseFx, tMkFx]
      walk_at "rd"
      exact fun d nd => qe (-1) rfl d _ (same_new nd) nd upd_same
end
section
variable {P : Program} {w : World} {K : PySem.W.Frag} {mg : Str → Option Value} {base : Heap}
theorem ok_codes (S : Src K mg "codes" s_codes) (T : Tx P K mg)   : Cal P w K mg base CX0 1 "codes" ["sign"] spCodes := by
  refine S.cal sc_codes bn_codes (fun vs H Q E h => ?_) (fun f cdv A outer s H vs Q E hr h => ?_)
  · first | (obtain ⟨rfl, _⟩ := h; rfl) | (obtain ⟨_, rfl, _⟩ := h; rfl) | (obtain ⟨_, _, rfl, _⟩ := h; rfl) | (obtain ⟨_, _, _, rfl, _⟩ := h; rfl) | (obtain ⟨_, _, _, _, rfl, _⟩ := h; rfl) | (obtain ⟨_, _, _, _, _, rfl, _⟩ := h; rfl) | (obtain ⟨_, _, _, _, _, _, rfl, _⟩ := h; rfl)
  · skip
    refine ⟨_, (pss_cons (ps_set (i := 1) sc_codes.nd rfl (Or.inl rfl) (pe_m1 PySem.F.slot_str_find PySem.F.type_str_find mt_find (Fx.pe_cst T.c_ROW1) (pv 0)))
        (pss_cons (ps_if (pt_cmpR op_ge (pv 1) pe_int (nomark _)) (pss_one (ps_ret (pe_tup (Fx.pa_c (pv 1) pa_nil)))) pss_nil)
        (pss_cons (ps_set (i := 1) sc_codes.nd rfl (Or.inl rfl) (pe_m1 PySem.F.slot_str_find PySem.F.type_str_find mt_find (Fx.pe_cst T.c_ROW2) (pv 0)))
        (pss_cons (ps_if (pt_cmpR op_ge (pv 1) pe_int (nomark _)) (pss_one (ps_ret (pe_tup (Fx.pa_c pe_int (Fx.pa_c (pv 1) pa_nil))))) pss_nil)
        (pss_cons (ps_set (i := 1) sc_codes.nd rfl (Or.inl rfl) (pe_m1 PySem.F.slot_str_find PySem.F.type_str_find mt_find (Fx.pe_cst T.c_ROW3) (pv 0)))
        (pss_cons (ps_if (pt_cmpR op_ge (pv 1) pe_int (nomark _)) (pss_one (ps_ret (pe_tup (Fx.pa_c pe_int (Fx.pa_c (pv 1) pa_nil))))) pss_nil)
        (pss_one (ps_ret (pe_tup (Fx.pa_c pe_int (Fx.pa_c (pe_op op_fdiv (Fx.pe_cB Fx.ord_S T.b_ord (by decide +kernel) (Fx.pa_c (pv 0) pa_nil)) pe_int) (Fx.pa_c (pe_op op_andM (Fx.pe_cB Fx.ord_S T.b_ord (by decide +kernel) (Fx.pa_c (pv 0) pa_nil)) pe_int) pa_nil)))))))))))), ?_⟩
    obtain ⟨c, rfl, q⟩ := h
    walk_at "rd"
    have fin : ∀ (p : Addr) (xs : List V), xs = (codeL c).map V.int → H p = none → Q (.ref p) (upd H p (.tup xs)) := fun p xs e np => q p _ (same_new np) np (by rw [upd_same, e])
    refine ite_i (fun h1 => ⟨by decide, fun p np => fin p _ ?_ np⟩) (fun h1 => ite_i (fun h2 => ⟨by decide, fun p np => fin p _ ?_ np⟩) (fun h2 => ite_i (fun h3 => ⟨by decide, fun p np => fin p _ ?_ np⟩) (fun h3 => ⟨rfl, ⟨by decide, by decide⟩, rfl, 4, by decide, by decide, fun p np => fin p _ ?_ np⟩)))
    · unfold codeL
      rw [if_pos (show 0 ≤ Txt.find rowA (S1 c) from h1)]
      rfl
    · unfold codeL
      rw [if_neg (show ¬ 0 ≤ Txt.find rowA (S1 c) from h1), if_pos (show 0 ≤ Txt.find rowB (S1 c) from h2)]
      rfl
    · unfold codeL
      rw [if_neg (show ¬ 0 ≤ Txt.find rowA (S1 c) from h1), if_neg (show ¬ 0 ≤ Txt.find rowB (S1 c) from h2), if_pos (show 0 ≤ Txt.find rowC (S1 c) from h3)]
      rfl
    · unfold codeL
      rw [if_neg (show ¬ 0 ≤ Txt.find rowA (S1 c) from h1), if_neg (show ¬ 0 ≤ Txt.find rowB (S1 c) from h2), if_neg (show ¬ 0 ≤ Txt.find rowC (S1 c) from h3)]
      rfl
end
section
variable {P : Program} {w : World} {K : PySem.W.Frag} {mg : Str → Option Value} {base : Heap}
theorem ok__law_bag (S : Src K mg "_law_bag" s__law_bag) (T : Tx P K mg)   : Cal P w K mg base CX0 1 "_law_bag" ["_law_script"] (spBag K) := by
  refine S.cal sc__law_bag bn__law_bag (fun vs H Q E h => ?_) (fun f cdv A outer s H vs Q E hr h => ?_)
  · first | (obtain ⟨rfl, _⟩ := h; rfl) | (obtain ⟨_, rfl, _⟩ := h; rfl) | (obtain ⟨_, _, rfl, _⟩ := h; rfl) | (obtain ⟨_, _, _, rfl, _⟩ := h; rfl) | (obtain ⟨_, _, _, _, rfl, _⟩ := h; rfl) | (obtain ⟨_, _, _, _, _, rfl, _⟩ := h; rfl) | (obtain ⟨_, _, _, _, _, _, rfl, _⟩ := h; rfl)
  · skip
    refine ⟨_, (pss_cons (ps_set (i := 1) sc__law_bag.nd rfl (Or.inl rfl) pe_int)
        (pss_cons (ps_for PassesOwn.never rfl (pi_list (pv 0)) (pg_name (i := 2) sc__law_bag.nd rfl (Or.inl rfl)) (pss_one (ps_set (i := 1) sc__law_bag.nd rfl (Or.inl rfl) (pe_op op_mod (Fx.pe_cTy Fx.int_I T.b_int (by decide +kernel) (Fx.pa_c (pe_op op_add (pe_op op_add (pe_op op_mul (pv 1) pe_int) (pv 2)) pe_int) pa_nil)) pe_int))))
        (pss_one (ps_ret (pe_disp (pps_cons pe_str (pe_lc (own := [("_law_cell", 2)]) rfl sc__law_bag.nd (pi_list (pv 0)) (blkOk_by (N := N__law_bag) (sc := defScope s__law_bag) (by decide +kernel)) (fun _ _ _ _ _ => (pg_name (i := 2) sc__law_bag.nd rfl (Or.inl rfl))) (fun _ _ _ _ _ => pts_nil) (fun _ _ _ _ _ => (pv 2))) (pps_cons pe_str pe_int (pps_cons pe_str pe_int (pps_cons pe_str (pv 1) (pps_cons pe_str pe_int pps_nil))))) (by rfl) (by rfl) (fun z => by cases z) (by decide)))))), ?_⟩
    obtain ⟨a, ns, rfl, hS, hlen, q⟩ := h
    refine seqI fun K1 k1 => ?_
    walk_at "rd"
    refine k1 _ _ ?_
    refine seqI fun K2 k2 => ?_
    refine ⟨_, rfl, a, rfl, ⟨_, hS⟩, for_list (K := K) (a := a) (xs := ns.map V.int) (fun i σ H' => ∃ (m : Int) (v : Option V), σ = [some (.ref a), some (.int m), v] ∧ H' = H) ⟨7, none, rfl, rfl⟩ (fun i σ H' _ ⟨_, _, _, e⟩ => by rw [e]; exact hS) ?_ ?_⟩
    · rintro i y σ H' hi ⟨m, v, rfl, rfl⟩
      obtain ⟨z, rfl⟩ : ∃ z, y = V.int z := by
        rw [List.getElem?_map] at hi
        cases e : ns[i]? with
        | none => rw [e] at hi; cases hi
        | some z => rw [e] at hi; exact ⟨z, (Option.some.inj hi).symm⟩
      walk_at "rd"
      exact ⟨.inr ⟨by decide, by decide⟩, by decide⟩
    · rintro σ H' ⟨m, v, rfl, rfl⟩
      refine k2 _ _ ?_
      intro p np
      refine ⟨.ref a, rfl, a, rfl, ⟨_, (same_new np).seq hS⟩, fun D hD => ?_⟩
      have hDp : D ≠ p := fun e => by rw [e, upd_same] at hD; cases hD
      refine lc_list (K := K) (a := a) (xs := ns.map V.int) (fun i H2 => H2 = upd (upd H' p (.dK [])) D (.lst ((ns.map V.int).take i))) rfl (fun i H2 _ e => ?_) ?_ ?_
      · rw [e]
        exact ((same_new np).trans (same_new hD)).seq hS
      · rintro i x H2 hx rfl
        refine ⟨rfl, ?_⟩
        walk_at "rd"
        refine ⟨?_, ?_⟩
        · rw [List.length_take]
          exact Nat.lt_of_le_of_lt (Nat.min_le_right _ _) (by rw [List.length_map]; exact Nat.lt_of_le_of_lt hlen (by decide))
        · rw [upd_upd, List.take_add_one, hx]
          rfl
      · rintro H2 rfl
        simp only [tPairs]
        walk_at "rd"
        have hpD : p ≠ D := fun e => hDp e.symm
        refine ⟨by rw [upd_ne hpD, upd_same], [(.inr "cells", .ref D), (.inr "at", .int 0), (.inr "rest", .int 0), (.inr "mixed", .int m), (.inr "count", .int 0)], rfl, (show 5 ≤ 15 by decide), ?_⟩
        refine q p _ (fun b o e => ?_) np ⟨D, ns, 0, 0, m, 0, upd_same, ?_, by decide⟩
        · rw [upd_ne (ne_of_none e np), upd_ne (ne_of_none (same_new np (o := .dK []) b o e) hD), upd_ne (ne_of_none e np)]
          exact e
        · rw [upd_ne hDp, upd_same, List.take_length]
end
section
variable {P : Program} {w : World} {K : PySem.W.Frag} {mg : Str → Option Value} {base : Heap}
theorem ok__law_pick (S : Src K mg "_law_pick" s__law_pick) (T : Tx P K mg)   : Cal P w K mg base CX0 1 "_law_pick" ["_law_bag_here", "_law_many"] spPick := by
  refine S.cal sc__law_pick bn__law_pick (fun vs H Q E h => ?_) (fun f cdv A outer s H vs Q E hr h => ?_)
  · first | (obtain ⟨rfl, _⟩ := h; rfl) | (obtain ⟨_, rfl, _⟩ := h; rfl) | (obtain ⟨_, _, rfl, _⟩ := h; rfl) | (obtain ⟨_, _, _, rfl, _⟩ := h; rfl) | (obtain ⟨_, _, _, _, rfl, _⟩ := h; rfl) | (obtain ⟨_, _, _, _, _, rfl, _⟩ := h; rfl) | (obtain ⟨_, _, _, _, _, _, rfl, _⟩ := h; rfl)
  · skip
    refine ⟨_, (pss_cons (ps_dput (hu_of hr) (pv 0) pe_str (pe_op op_add (pe_dget (hu_of hr) (pv 0) pe_str (fun _ _ => rfl)) pe_int) rfl)
        (pss_cons (ps_if (pt_cmpR op_gt (pe_dget (hu_of hr) (pv 0) pe_str (fun _ _ => rfl)) pe_int (nomark _)) (pss_cons (ps_set (i := 2) sc__law_pick.nd rfl (Or.inl rfl) (pe_dget (hu_of hr) (pv 0) pe_str (fun _ _ => rfl)))
        (pss_cons (ps_dput (hu_of hr) (pv 0) pe_str (pe_op op_fdiv (pv 2) (pv 1)) rfl)
        (pss_one (ps_ret (pe_op op_mod (Fx.pe_cTy Fx.int_I T.b_int (by decide +kernel) (Fx.pa_c (pv 2) pa_nil)) (pv 1)))))) pss_nil)
        (pss_cons (ps_set (i := 3) sc__law_pick.nd rfl (Or.inl rfl) pe_int)
        (pss_cons (ps_if (pt_cmpR op_lt (pe_dget (hu_of hr) (pv 0) pe_str (fun _ _ => rfl)) (Fx.pe_cB Fx.len_L T.b_len (by decide +kernel) (Fx.pa_c (pe_dget (hu_of hr) (pv 0) pe_str (fun _ _ => rfl)) pa_nil)) (nomark _)) (pss_cons (ps_set (i := 3) sc__law_pick.nd rfl (Or.inl rfl) (pe_ix Fx.ix_L (pe_dget (hu_of hr) (pv 0) pe_str (fun _ _ => rfl)) (pe_dget (hu_of hr) (pv 0) pe_str (fun _ _ => rfl)) (fun _ _ => rfl)))
        (pss_cons (ps_dput (hu_of hr) (pv 0) pe_str (pe_op op_add (pe_dget (hu_of hr) (pv 0) pe_str (fun _ _ => rfl)) pe_int) rfl)
        (pss_one (ps_if (pt_cmpR op_ge (pv 3) (pe_op op_pow pe_int pe_int) (nomark _)) (pss_cons (ps_dput (hu_of hr) (pv 0) pe_str (pe_op op_fdiv (pv 3) (pv 1)) rfl)
        (pss_one (ps_ret (pe_op op_mod (Fx.pe_cTy Fx.int_I T.b_int (by decide +kernel) (Fx.pa_c (pv 3) pa_nil)) (pv 1))))) pss_nil)))) pss_nil)
        (pss_cons (ps_set (i := 2) sc__law_pick.nd rfl (Or.inl rfl) (pe_op op_mod (Fx.pe_cTy Fx.int_I T.b_int (by decide +kernel) (Fx.pa_c (pe_op op_add (pe_op op_add (pe_op op_mul (pv 3) pe_int) (pe_op op_mul (pe_dget (hu_of hr) (pv 0) pe_str (fun _ _ => rfl)) pe_int)) (pe_op op_mul (pe_dget (hu_of hr) (pv 0) pe_str (fun _ _ => rfl)) pe_int)) pa_nil)) pe_int))
        (pss_cons (ps_set (i := 2) sc__law_pick.nd rfl (Or.inl rfl) (pe_op op_mod (Fx.pe_cTy Fx.int_I T.b_int (by decide +kernel) (Fx.pa_c (pe_op op_add (pe_op op_mul (pv 2) pe_int) pe_int) pa_nil)) pe_int))
        (pss_cons (ps_dput (hu_of hr) (pv 0) pe_str (pe_op op_mod (Fx.pe_cTy Fx.int_I T.b_int (by decide +kernel) (Fx.pa_c (pv 2) pa_nil)) pe_int) rfl)
        (pss_one (ps_ret (pe_op op_mod (Fx.pe_cTy Fx.int_I T.b_int (by decide +kernel) (Fx.pa_c (pe_op op_fdiv (pv 2) pe_int) pa_nil)) (pv 1))))))))))), ?_⟩
    obtain ⟨b, many, rfl, ⟨c, ns, a, r, m, n, hb, hc, ha⟩, h0, h1, q⟩ := h
    have hcb : c ≠ b := ne_of hc hb (by intro z; cases z)
    have hu : ∀ o, upd H b o c = some (.lst (ns.map V.int)) := fun o => by rw [upd_ne hcb]; exact hc
    walk_at "rd"
    simp only [dget_s hb, dput_s hb bag_len, dget_su, dput_su bag_len, bag_cells, bag_at, bag_rest, bag_mixed, bag_count, bag_atP, bag_restP, bag_mixedP, bag_countP, Option.some.injEq, exists_eq_left, exists_eq_left', V.int.injEq, V.ref.injEq, HO.lst.injEq, hu]
    have fin : ∀ (x y z u : Int) (n : Int), 0 ≤ n → n < many → 0 ≤ x → Q (.int n) (upd H b (.dK (bagKV c x y z u))) := fun x y z u n g1 g2 g3 =>
      q n _ g1 g2 ⟨fun p o hp e => by rw [upd_ne hp]; exact e, ⟨c, ns, x, y, z, u, upd_same, hu _, g3⟩, fun c' ⟨ns', x', y', z', u', e1, e2, e3⟩ => by
        rw [hb] at e1
        have ec : c = c' := by
          simp only [Option.some.injEq, HO.dK.injEq, bagKV, List.cons.injEq, Prod.mk.injEq, V.ref.injEq, true_and] at e1
          exact e1.1
        subst ec
        exact ⟨ns, x, y, z, u, upd_same, hu _, g3⟩⟩
    have mm : ∀ x : Int, 0 ≤ x % many ∧ x % many < many := fun x => ⟨Int.emod_nonneg _ (by omega), Int.emod_lt_of_pos _ h0⟩
    refine ite_i (fun hr => ⟨⟨h0, h1⟩, h0, fin _ _ _ _ _ (mm _).1 (mm _).2 ha⟩) (fun hr => ?_)
    refine ite_i (fun hl => ?_) (fun hl => ?_)
    · obtain ⟨x, ex⟩ := atI_ok ha hl
      refine ⟨.int x, ex, ?_⟩
      simp only [V.int.injEq, exists_eq_left', exists_eq_left]
      refine ⟨⟨by decide, by decide, by decide⟩, ite_i (fun hx => ⟨⟨h0, h1⟩, h0, fin _ _ _ _ _ (mm _).1 (mm _).2 (by omega)⟩) (fun hx => ?_)⟩
      exact ⟨.inr ⟨by decide, by decide⟩, .inr ⟨by decide, by decide⟩, .inr ⟨by decide, by decide⟩, by decide, .inr ⟨by decide, by decide⟩, by decide, by decide, ⟨by decide, by decide⟩, h0, fin _ _ _ _ _ (mm _).1 (mm _).2 (by omega)⟩
    · exact ⟨.inr ⟨by decide, by decide⟩, .inr ⟨by decide, by decide⟩, .inr ⟨by decide, by decide⟩, by decide, .inr ⟨by decide, by decide⟩, by decide, by decide, ⟨by decide, by decide⟩, h0, fin _ _ _ _ _ (mm _).1 (mm _).2 ha⟩
end
section
variable {P : Program} {w : World} {K : PySem.W.Frag} {mg : Str → Option Value} {base : Heap}
theorem ok__law_choice (S : Src K mg "_law_choice" s__law_choice) (T : Tx P K mg) (C__law_pick : Cal P w K mg base CX0 1 "_law_pick" ["_law_bag_here", "_law_many"] spPick)  : Cal P w K mg base CX0 2 "_law_choice" ["_law_bag_here", "_law_things"] spChoiceS := by
  refine S.cal sc__law_choice bn__law_choice (fun vs H Q E h => ?_) (fun f cdv A outer s H vs Q E hr h => ?_)
  · first | (obtain ⟨rfl, _⟩ := h; rfl) | (obtain ⟨_, rfl, _⟩ := h; rfl) | (obtain ⟨_, _, rfl, _⟩ := h; rfl) | (obtain ⟨_, _, _, rfl, _⟩ := h; rfl) | (obtain ⟨_, _, _, _, rfl, _⟩ := h; rfl) | (obtain ⟨_, _, _, _, _, rfl, _⟩ := h; rfl) | (obtain ⟨_, _, _, _, _, _, rfl, _⟩ := h; rfl)
  · skip
    refine ⟨_, (pss_one (ps_ret (pe_ix Fx.ix_S (pv 1) (Fx.pe_cal C__law_pick (hr.mono (by decide)) pass0 (Fx.pa_c (pv 0) (Fx.pa_c (Fx.pe_cB Fx.len_S T.b_len (by decide +kernel) (Fx.pa_c (pv 1) pa_nil)) pa_nil))) (fun _ _ => rfl)))), ?_⟩
    obtain ⟨b, z, rfl, hB, h0, h1, q⟩ := h
    walk_at "rd"
    refine ⟨sz h1, b, _, rfl, hB, by omega, by omega, fun n H' g1 g2 k => ?_⟩
    obtain ⟨c, hc, hm⟩ := atI_mem (xs := z.cps.toList) g1 (by rw [Array.length_toList]; exact g2)
    walk_at "rd"
    exact ⟨sz h1, c, hc, q c H' hm k⟩
end
section
variable {P : Program} {w : World} {K : PySem.W.Frag} {mg : Str → Option Value} {base : Heap}
theorem ok__law_integer (S : Src K mg "_law_integer" s__law_integer) (T : Tx P K mg)   : Cal P w K mg base CX0 1 "_law_integer" ["_law_thing"] spInteger := by
  refine S.cal sc__law_integer bn__law_integer (fun vs H Q E h => ?_) (fun f cdv A outer s H vs Q E hr h => ?_)
  · first | (obtain ⟨rfl, _⟩ := h; rfl) | (obtain ⟨_, rfl, _⟩ := h; rfl) | (obtain ⟨_, _, rfl, _⟩ := h; rfl) | (obtain ⟨_, _, _, rfl, _⟩ := h; rfl) | (obtain ⟨_, _, _, _, rfl, _⟩ := h; rfl) | (obtain ⟨_, _, _, _, _, rfl, _⟩ := h; rfl) | (obtain ⟨_, _, _, _, _, _, rfl, _⟩ := h; rfl)
  · skip
    refine ⟨_, (pss_one (ps_ret (pe_and (Fx.pe_cB Fx.is_B T.b_isinstance (by decide +kernel) (Fx.pa_c (pv 0) (Fx.pa_c (pe_bltn (v := .ty "int") (by rfl) T.b_int (by decide +kernel) rfl) pa_nil))) (pe_one (pe_not (Fx.pe_cB Fx.is_B T.b_isinstance (by decide +kernel) (Fx.pa_c (pv 0) (Fx.pa_c (pe_bltn (v := .ty "bool") (by rfl) T.b_bool (by decide +kernel) rfl) pa_nil)))))))), ?_⟩
    obtain ⟨i, rfl, q⟩ := h
    walk_at "rd"
    exact q
end
section
variable {P : Program} {w : World} {K : PySem.W.Frag} {mg : Str → Option Value} {base : Heap}
theorem ok__law_signs (S : Src K mg "_law_signs" s__law_signs) (T : Tx P K mg)   : Cal P w K mg base CX0 1 "_law_signs" [] spSigns := by
  refine S.cal sc__law_signs bn__law_signs (fun vs H Q E h => ?_) (fun f cdv A outer s H vs Q E hr h => ?_)
  · first | (obtain ⟨rfl, _⟩ := h; rfl) | (obtain ⟨_, rfl, _⟩ := h; rfl) | (obtain ⟨_, _, rfl, _⟩ := h; rfl) | (obtain ⟨_, _, _, rfl, _⟩ := h; rfl) | (obtain ⟨_, _, _, _, rfl, _⟩ := h; rfl) | (obtain ⟨_, _, _, _, _, rfl, _⟩ := h; rfl) | (obtain ⟨_, _, _, _, _, _, rfl, _⟩ := h; rfl)
  · skip
    refine ⟨_, (pss_one (ps_ret pe_str)), ?_⟩
    obtain ⟨rfl, q⟩ := h
    walk_at "rd"
    exact q
end
section
variable {P : Program} {w : World} {K : PySem.W.Frag} {mg : Str → Option Value} {base : Heap}
theorem ok__law_codes (S : Src K mg "_law_codes" s__law_codes) (T : Tx P K mg)   : Cal P w K mg base CX0 1 "_law_codes" ["_law_sign_here"] spLCodes := by
  refine S.cal sc__law_codes bn__law_codes (fun vs H Q E h => ?_) (fun f cdv A outer s H vs Q E hr h => ?_)
  · first | (obtain ⟨rfl, _⟩ := h; rfl) | (obtain ⟨_, rfl, _⟩ := h; rfl) | (obtain ⟨_, _, rfl, _⟩ := h; rfl) | (obtain ⟨_, _, _, rfl, _⟩ := h; rfl) | (obtain ⟨_, _, _, _, rfl, _⟩ := h; rfl) | (obtain ⟨_, _, _, _, _, rfl, _⟩ := h; rfl) | (obtain ⟨_, _, _, _, _, _, rfl, _⟩ := h; rfl)
  · skip
    refine ⟨_, (pss_cons (ps_set (i := 1) sc__law_codes.nd rfl (Or.inl rfl) (pe_lst (Fx.pa_c pe_str (Fx.pa_c pe_str (Fx.pa_c pe_str pa_nil)))))
        (pss_cons (ps_for PassesOwn.never rfl (pi_range1 rfl T.b_range (Fx.pa_c pe_int pa_nil)) (pg_name (i := 2) sc__law_codes.nd rfl (Or.inl rfl)) (pss_cons (ps_set (i := 3) sc__law_codes.nd rfl (Or.inl rfl) (pe_m1 PySem.F.slot_str_find PySem.F.type_str_find mt_find (pe_ix Fx.ix_L (pv 1) (pv 2) (fun _ _ => rfl)) (pv 0)))
        (pss_one (ps_if (pt_cmpR op_ge (pv 3) pe_int (nomark _)) (pss_one (ps_ret (pe_ix Fx.ix_L (pe_lst (Fx.pa_c (pe_lst (Fx.pa_c (pv 3) pa_nil)) (Fx.pa_c (pe_lst (Fx.pa_c pe_int (Fx.pa_c (pv 3) pa_nil))) (Fx.pa_c (pe_lst (Fx.pa_c pe_int (Fx.pa_c (pv 3) pa_nil))) pa_nil)))) (pv 2) (fun _ _ => rfl)))) pss_nil))))
        (pss_one (ps_ret (pe_lst (Fx.pa_c pe_int (Fx.pa_c (pe_op op_fdiv (Fx.pe_cB Fx.ord_S T.b_ord (by decide +kernel) (Fx.pa_c (pv 0) pa_nil)) pe_int) (Fx.pa_c (pe_op op_mod (Fx.pe_cTy Fx.int_I T.b_int (by decide +kernel) (Fx.pa_c (Fx.pe_cB Fx.ord_S T.b_ord (by decide +kernel) (Fx.pa_c (pv 0) pa_nil)) pa_nil)) pe_int) pa_nil)))))))), ?_⟩
    obtain ⟨c, rfl, q⟩ := h
    refine seqI fun K1 k1 => ?_
    walk_at "rd"
    refine ⟨by decide, fun p np => k1 _ _ ?_⟩
    refine seqI fun K2 k2 => ?_
    refine ⟨3, rfl, by decide, by decide, for_range (lo := 0) (n := 3) (fun i σ H' => ∃ v2 v3, σ = [some (.str (S1 c)), some (.ref p), v2, v3] ∧ H' = upd H p (.lst [.str rowA, .str rowB, .str rowC]) ∧ (1 ≤ i → ¬ 0 ≤ Txt.find rowA (S1 c)) ∧ (2 ≤ i → ¬ 0 ≤ Txt.find rowB (S1 c)) ∧ (3 ≤ i → ¬ 0 ≤ Txt.find rowC (S1 c))) ⟨none, none, rfl, rfl, by omega, by omega, by omega⟩ ?_ ?_⟩
    · rintro i σ H' hi ⟨v2, v3, rfl, rfl, g1, g2, g3⟩
      have fin : ∀ (r : V) (p1 p2 p3 p4 : Addr) (x1 x2 x3 x4 : List V), (upd H p (.lst [.str rowA, .str rowB, .str rowC])) p1 = none → (upd (upd H p (.lst [.str rowA, .str rowB, .str rowC])) p1 (.lst x1)) p2 = none →
          (upd (upd (upd H p (.lst [.str rowA, .str rowB, .str rowC])) p1 (.lst x1)) p2 (.lst x2)) p3 = none → (upd (upd (upd (upd H p (.lst [.str rowA, .str rowB, .str rowC])) p1 (.lst x1)) p2 (.lst x2)) p3 (.lst x3)) p4 = none →
          ((r = .ref p1 ∧ x1 = (codeL c).map V.int) ∨ (r = .ref p2 ∧ x2 = (codeL c).map V.int) ∨ (r = .ref p3 ∧ x3 = (codeL c).map V.int)) → Q r (upd (upd (upd (upd (upd H p (.lst [.str rowA, .str rowB, .str rowC])) p1 (.lst x1)) p2 (.lst x2)) p3 (.lst x3)) p4 (.lst x4)) := by
        intro r p1 p2 p3 p4 x1 x2 x3 x4 n1 n2 n3 n4 hr
        have s0 : Same H (upd H p (.lst [.str rowA, .str rowB, .str rowC])) := same_new np
        have s1 := same_new (o := .lst x1) n1
        have s2 := same_new (o := .lst x2) n2
        have s3 := same_new (o := .lst x3) n3
        have s4 := same_new (o := .lst x4) n4
        rcases hr with ⟨rfl, e⟩ | ⟨rfl, e⟩ | ⟨rfl, e⟩
        · exact q p1 _ (s0.trans (s1.trans (s2.trans (s3.trans s4)))) (s0.free n1) (by rw [← e]; exact s4 _ _ (s3 _ _ (s2 _ _ upd_same)))
        · exact q p2 _ (s0.trans (s1.trans (s2.trans (s3.trans s4)))) (s0.free (s1.free n2)) (by rw [← e]; exact s4 _ _ (s3 _ _ upd_same))
        · exact q p3 _ (s0.trans (s1.trans (s2.trans (s3.trans s4)))) (s0.free (s1.free (s2.free n3))) (by rw [← e]; exact s4 _ _ upd_same)
      rcases (by omega : i = 0 ∨ i = 1 ∨ i = 2) with rfl | rfl | rfl
      · walk_at "rd"
        refine ⟨.str rowA, rfl, ?_⟩
        walk_at "rd"
        refine ite_i (fun h1 => ⟨by decide, fun p1 n1 => ⟨by decide, fun p2 n2 => ⟨by decide, fun p3 n3 => ⟨by decide, fun p4 n4 => ⟨_, rfl, fin _ _ _ _ _ _ _ _ _ n1 n2 n3 n4 (.inl ⟨rfl, ?_⟩)⟩⟩⟩⟩⟩) (fun h1 => ⟨fun _ => h1, by omega, by omega⟩)
        unfold codeL
        rw [if_pos h1]
        rfl
      · walk_at "rd"
        refine ⟨.str rowB, rfl, ?_⟩
        walk_at "rd"
        refine ite_i (fun h2 => ⟨by decide, fun p1 n1 => ⟨by decide, fun p2 n2 => ⟨by decide, fun p3 n3 => ⟨by decide, fun p4 n4 => ⟨_, rfl, fin _ _ _ _ _ _ _ _ _ n1 n2 n3 n4 (.inr (.inl ⟨rfl, ?_⟩))⟩⟩⟩⟩⟩) (fun h2 => ⟨fun _ => g1 (by omega), fun _ => h2, by omega⟩)
        unfold codeL
        rw [if_neg (g1 (by omega)), if_pos h2]
        rfl
      · walk_at "rd"
        refine ⟨.str rowC, rfl, ?_⟩
        walk_at "rd"
        refine ite_i (fun h3 => ⟨by decide, fun p1 n1 => ⟨by decide, fun p2 n2 => ⟨by decide, fun p3 n3 => ⟨by decide, fun p4 n4 => ⟨_, rfl, fin _ _ _ _ _ _ _ _ _ n1 n2 n3 n4 (.inr (.inr ⟨rfl, ?_⟩))⟩⟩⟩⟩⟩) (fun h3 => ⟨fun _ => g1 (by omega), fun _ => g2 (by omega), fun _ => h3⟩)
        unfold codeL
        rw [if_neg (g1 (by omega)), if_neg (g2 (by omega)), if_pos h3]
        rfl
    · rintro σ H' ⟨v2, v3, rfl, rfl, g1, g2, g3⟩
      refine k2 _ _ ?_
      walk_at "rd"
      refine ⟨rfl, ⟨by decide, by decide⟩, rfl, by decide, by decide, fun l nl => q l _ ((same_new np).trans (same_new nl)) ((same_new np (o := .lst [.str rowA, .str rowB, .str rowC])).free nl) ?_⟩
      rw [upd_same]
      unfold codeL
      rw [if_neg (g1 (by omega)), if_neg (g2 (by omega)), if_neg (g3 (by omega))]
      rfl
end
section
variable {P : Program} {w : World} {K : PySem.W.Frag} {mg : Str → Option Value} {base : Heap}
theorem ok__law_sign (S : Src K mg "_law_sign" s__law_sign) (T : Tx P K mg) (C__law_signs : Cal P w K mg base CX0 1 "_law_signs" [] spSigns) (C__law_choice : Cal P w K mg base CX0 2 "_law_choice" ["_law_bag_here", "_law_things"] spChoiceS)  : Cal P w K mg base CX0 3 "_law_sign" ["_law_bag_here"] spSign := by
  refine S.cal sc__law_sign bn__law_sign (fun vs H Q E h => ?_) (fun f cdv A outer s H vs Q E hr h => ?_)
  · first | (obtain ⟨rfl, _⟩ := h; rfl) | (obtain ⟨_, rfl, _⟩ := h; rfl) | (obtain ⟨_, _, rfl, _⟩ := h; rfl) | (obtain ⟨_, _, _, rfl, _⟩ := h; rfl) | (obtain ⟨_, _, _, _, rfl, _⟩ := h; rfl) | (obtain ⟨_, _, _, _, _, rfl, _⟩ := h; rfl) | (obtain ⟨_, _, _, _, _, _, rfl, _⟩ := h; rfl)
  · skip
    refine ⟨_, (pss_one (ps_ret (Fx.pe_cal C__law_choice (hr.mono (by decide)) pass0 (Fx.pa_c (pv 0) (Fx.pa_c (Fx.pe_cal0 C__law_signs (hr.mono (by decide)) pass0) pa_nil))))), ?_⟩
    obtain ⟨b, rfl, hB, q⟩ := h
    walk_at "rd"
    exact ⟨rfl, b, signs2, rfl, hB, by decide, by decide, fun c H' hc k => q c H' hc k⟩
end
section
variable {P : Program} {w : World} {K : PySem.W.Frag} {mg : Str → Option Value} {base : Heap}
theorem ok__law_numbers (S : Src K mg "_law_numbers" s__law_numbers) (T : Tx P K mg) (C__law_integer : Cal P w K mg base CX0 1 "_law_integer" ["_law_thing"] spInteger)  : Cal P w K mg base CX0 2 "_law_numbers" ["_law_actual", "_law_due"] spNumbers := by
  refine S.cal sc__law_numbers bn__law_numbers (fun vs H Q E h => ?_) (fun f cdv A outer s H vs Q E hr h => ?_)
  · first | (obtain ⟨rfl, _⟩ := h; rfl) | (obtain ⟨_, rfl, _⟩ := h; rfl) | (obtain ⟨_, _, rfl, _⟩ := h; rfl) | (obtain ⟨_, _, _, rfl, _⟩ := h; rfl) | (obtain ⟨_, _, _, _, rfl, _⟩ := h; rfl) | (obtain ⟨_, _, _, _, _, rfl, _⟩ := h; rfl) | (obtain ⟨_, _, _, _, _, _, rfl, _⟩ := h; rfl)
  · skip
    refine ⟨_, (pss_cons (ps_if (PW.pt (pw_or (pt_not (pt_val (Fx.pe_cB Fx.is_B T.b_isinstance (by decide +kernel) (Fx.pa_c (pv 0) (Fx.pa_c (pe_bltn (v := .ty "tuple") (by rfl) T.b_tuple (by decide +kernel) rfl) pa_nil))))) (pw_or1 (pt_cmpR op_ne (Fx.pe_cB Fx.len_T T.b_len (by decide +kernel) (Fx.pa_c (pv 0) pa_nil)) (Fx.pe_cB Fx.len_L T.b_len (by decide +kernel) (Fx.pa_c (pv 1) pa_nil)) (nomark _))))) (pss_one (ps_ret pe_bl)) pss_nil)
        (pss_one (ps_ret (pe_and (Fx.pe_cB (Fx.all_L rfl) T.b_all (by decide +kernel) (Fx.pa_c (pe_lc (own := [("_law_number", 2)]) rfl sc__law_numbers.nd (pi_tup (pv 0)) (blkOk_by (N := N__law_numbers) (sc := defScope s__law_numbers) (by decide +kernel)) (fun _ _ _ _ _ => (pg_name (i := 2) sc__law_numbers.nd rfl (Or.inl rfl))) (fun _ _ _ _ _ => pts_nil) (fun _ _ _ _ _ => (Fx.pe_cal C__law_integer (hr.mono (by decide)) pass0 (Fx.pa_c (pv 2) pa_nil)))) pa_nil)) (pe_one (pe_cmpR (Fx.eq_LL hr.units) (Fx.pe_cTy Fx.list_T T.b_list (by decide +kernel) (Fx.pa_c (pv 0) pa_nil)) (pv 1) (nomark _))))))), ?_⟩
    obtain ⟨a, d, ns, rfl, ha, hd, hlen, q⟩ := h
    walk_at "rd"
    simp only [tyv_tup ha, Option.some.injEq, exists_eq_left', kb_tuple_tuple, ha, hd, HO.tup.injEq, HO.lst.injEq, Bool.not_true, Bool.false_eq_true, if_false, if_true]
    refine ⟨.ref a, rfl, a, rfl, ⟨_, .inl (.inl ha)⟩, fun D nD => ?_⟩
    refine lc_tup (K := K) (a := a) (xs := ns.map V.int) (fun i H2 => H2 = upd H D (.lst ((List.replicate i true).map V.bl))) rfl (fun i H2 _ e => ?_) ?_ ?_
    · rw [e]
      exact .inl (.inl (same_new nD _ _ ha))
    · rintro i x H2 hx rfl
      obtain ⟨z, rfl⟩ : ∃ z, x = V.int z := by
        rw [List.getElem?_map] at hx
        cases e : ns[i]? with
        | none => rw [e] at hx; cases hx
        | some z => rw [e] at hx; exact ⟨z, (Option.some.inj hx).symm⟩
      refine ⟨rfl, ?_⟩
      walk_at "rd"
      refine ⟨z, rfl, _, upd_same, ?_, ?_⟩
      · have hi : i < ns.length := by
          have := (List.getElem?_eq_some_iff.mp hx).1
          rw [List.length_map] at this
          exact this
        rw [List.length_map, List.length_replicate]
        exact Nat.lt_of_lt_of_le hi (Nat.le_trans hlen (by decide))
      · rw [upd_upd]
        congr 2
        have e : ∀ n : Nat, List.map V.bl (List.replicate n true) ++ [V.bl true] = V.bl true :: List.map V.bl (List.replicate n true) := fun n => by
          induction n with
          | zero => rfl
          | succ n ih => rw [List.replicate_succ, List.map_cons, List.cons_append, ih]
        exact e i
    · rintro H2 rfl
      have sD : Same H (upd H D (.lst ((List.replicate (ns.map V.int).length true).map V.bl))) := same_new nD
      refine ⟨D, rfl, List.replicate (ns.map V.int).length true, upd_same, ?_⟩
      rw [if_pos (by simp)]
      refine ⟨_, sD _ _ ha, fun l nl => ⟨_, same_new nl _ _ (sD _ _ hd), ?_, ?_, ?_⟩⟩
      · simp [isF]
      · simp [isF]
      · rw [decide_eq_true rfl]
        exact q _ (sD.trans (same_new nl))
end
section
variable {P : Program} {w : World} {K : PySem.W.Frag} {mg : Str → Option Value} {base : Heap}
theorem ok__law_long_text (S : Src K mg "_law_long_text" s__law_long_text) (T : Tx P K mg) (C__law_pick : Cal P w K mg base CX0 1 "_law_pick" ["_law_bag_here", "_law_many"] spPick) (C__law_sign : Cal P w K mg base CX0 3 "_law_sign" ["_law_bag_here"] spSign)  : Cal P w K mg base CX0 4 "_law_long_text" ["_law_bag_here"] spLong := by
  refine S.cal sc__law_long_text bn__law_long_text (fun vs H Q E h => ?_) (fun f cdv A outer s H vs Q E hr h => ?_)
  · first | (obtain ⟨rfl, _⟩ := h; rfl) | (obtain ⟨_, rfl, _⟩ := h; rfl) | (obtain ⟨_, _, rfl, _⟩ := h; rfl) | (obtain ⟨_, _, _, rfl, _⟩ := h; rfl) | (obtain ⟨_, _, _, _, rfl, _⟩ := h; rfl) | (obtain ⟨_, _, _, _, _, rfl, _⟩ := h; rfl) | (obtain ⟨_, _, _, _, _, _, rfl, _⟩ := h; rfl)
  · skip
    refine ⟨_, (pss_cons (ps_set (i := 1) sc__law_long_text.nd rfl (Or.inl rfl) pe_str)
        (pss_cons (ps_for PassesOwn.never rfl (pi_range1 rfl T.b_range (Fx.pa_c (Fx.pe_cal C__law_pick (hr.mono (by decide)) pass0 (Fx.pa_c (pv 0) (Fx.pa_c pe_int pa_nil))) pa_nil)) (pg_name (i := 2) sc__law_long_text.nd rfl (Or.inl rfl)) (pss_one (ps_set (i := 1) sc__law_long_text.nd rfl (Or.inl rfl) (pe_op op_add_str (pv 1) (pe_op Fx.op_mul_str (Fx.pe_cal C__law_sign (hr.mono (by decide)) pass0 (Fx.pa_c (pv 0) pa_nil)) (pe_ix Fx.ix_L (pe_lst (Fx.pa_c pe_int (Fx.pa_c pe_int (Fx.pa_c pe_int (Fx.pa_c pe_int pa_nil))))) (Fx.pe_cal C__law_pick (hr.mono (by decide)) pass0 (Fx.pa_c (pv 0) (Fx.pa_c pe_int pa_nil))) (fun _ _ => rfl)))))))
        (pss_cons (ps_set (i := 3) sc__law_long_text.nd rfl (Or.inl rfl) (Fx.pe_cal C__law_pick (hr.mono (by decide)) pass0 (Fx.pa_c (pv 0) (Fx.pa_c pe_int pa_nil))))
        (pss_cons (ps_if (pt_cmpR op_gt (pv 3) pe_int (nomark _)) (pss_one (ps_set (i := 1) sc__law_long_text.nd rfl (Or.inl rfl) (pe_slice sl_str (pe_op op_add_str (pv 1) (pe_op Fx.op_mul_str (Fx.pe_cal C__law_sign (hr.mono (by decide)) pass0 (Fx.pa_c (pv 0) pa_nil)) pe_int)) po_none (po_some (pe_op op_add pe_int (pv 3)))))) pss_nil)
        (pss_cons (ps_for PassesOwn.never rfl (pi_range1 rfl T.b_range (Fx.pa_c (pe_ix Fx.ix_L (pe_lst (Fx.pa_c pe_int (Fx.pa_c pe_int (Fx.pa_c pe_int (Fx.pa_c pe_int pa_nil))))) (Fx.pe_cal C__law_pick (hr.mono (by decide)) pass0 (Fx.pa_c (pv 0) (Fx.pa_c pe_int pa_nil))) (fun _ _ => rfl)) pa_nil)) (pg_name (i := 2) sc__law_long_text.nd rfl (Or.inl rfl)) (pss_cons (ps_set (i := 4) sc__law_long_text.nd rfl (Or.inl rfl) (Fx.pe_cal C__law_pick (hr.mono (by decide)) pass0 (Fx.pa_c (pv 0) (Fx.pa_c (pe_op op_add (Fx.pe_cB Fx.len_S T.b_len (by decide +kernel) (Fx.pa_c (pv 1) pa_nil)) pe_int) pa_nil))))
        (pss_one (ps_set (i := 1) sc__law_long_text.nd rfl (Or.inl rfl) (pe_op op_add_str (pe_op op_add_str (pe_slice sl_str (pv 1) po_none (po_some (pv 4))) pe_str) (pe_slice sl_str (pv 1) (po_some (pv 4)) po_none))))))
        (pss_one (ps_ret (pv 1)))))))), ?_⟩
    obtain ⟨b, rfl, hB, q⟩ := h
    refine seqI fun K1 k1 => ?_
    walk_at "rd"
    refine k1 _ _ ?_
    clear k1
    refine seqI fun K2 k2 => ?_
    refine ⟨.ref b, rfl, b, 12, rfl, hB, by decide, by decide, fun n H1 n0 n1 kp1 => ?_⟩
    refine ⟨n, rfl, by omega, by omega, for_range (lo := 0) (n := n.toNat) (fun i σ H' => ∃ (z : Str) (v : Option V), σ = [some (.ref b), some (.str z), v, none, none] ∧ z.length ≤ 60 * i ∧ (∀ c ∈ z.cps.toList, c ∈ signs2.cps.toList) ∧ Kp b H H') ⟨"", none, rfl, by decide, ?_, kp1⟩ ?_ ?_⟩
    · intro c hc
      cases hc
    · rintro i σ H' hi ⟨z, v, rfl, hz, hall, kp2⟩
      clear k2
      walk_at "rd"
      refine ⟨b, rfl, kp2.bag, fun c H3 hc kp3 => ?_⟩
      refine ⟨by decide, fun p np => ?_⟩
      have s3 := same_new (o := .lst [.int 1, .int 1, .int 20, .int 60]) np
      refine ⟨b, 4, rfl, kp3.bag.same s3, by decide, by decide, fun m H4 m0 m1 kp4 => ?_⟩
      walk_at "rd"
      refine ⟨_, kp4.lst (kp3.bag.same s3) upd_same, ?_⟩
      have fin : ∀ k : Int, 0 ≤ k → k ≤ 60 → (Txt.mul (S1 c) k).length = k.toNat ∧ (∀ x ∈ (Txt.mul (S1 c) k).cps.toList, x = c) := fun k k0 k1 => mul_one c k k0
      have big : 60 * i ≤ 660 := by omega
      obtain ⟨k, k0, k1, ek⟩ : ∃ k : Int, 0 ≤ k ∧ k ≤ 60 ∧ atI [V.int 1, V.int 1, V.int 20, V.int 60] m = some (.int k) := by
        rcases (by omega : m = 0 ∨ m = 1 ∨ m = 2 ∨ m = 3) with rfl | rfl | rfl | rfl
        · exact ⟨1, by decide, by decide, rfl⟩
        · exact ⟨1, by decide, by decide, rfl⟩
        · exact ⟨20, by decide, by decide, rfl⟩
        · exact ⟨60, by decide, by decide, rfl⟩
      refine ⟨_, ek, ?_⟩
      walk_at "rd"
      obtain ⟨l1, l2⟩ := fin k k0 k1
      refine ⟨k0, by omega, ?_, sz (by omega), ?_, fun x hx => ?_, ((kp2.trans kp3).then s3).trans kp4⟩
      · show 1 * k.toNat ≤ 1000000
        omega
      · rw [len_app]
        omega
      · rw [list_app, List.mem_append] at hx
        rcases hx with hx | hx
        · exact hall x hx
        · rw [l2 x hx]
          exact hc
    · rintro σ H' ⟨z, v, rfl, hz, hall, kp2⟩
      refine k2 _ _ ?_
      clear k2
      have hz2 : z.length ≤ 660 := by omega
      clear hz kp1 n0 n1
      refine seqI fun K3 k3 => ?_
      walk_at "rd"
      refine ⟨b, 6, rfl, kp2.bag, by decide, by decide, fun e H3 e0 e1 kp3 => k3 _ _ ?_⟩
      clear k3
      refine seqI fun K4 k4 => ?_
      have step : ∀ (z : Str) (H4 : Hp), z.length ≤ 660 → (∀ c ∈ z.cps.toList, c ∈ signs2.cps.toList) → Kp b H H4 → K4 [some (.ref b), some (.str z), v, some (.int e), none] H4 := by
        intro z H4 hz hall kp4
        refine k4 _ _ ?_
        clear k4
        refine seqI fun K5 k5 => ?_
        refine ⟨by decide, fun p np => ?_⟩
        have s5 := same_new (o := .lst [.int 0, .int 0, .int 1, .int 2]) np
        refine ⟨.ref b, rfl, b, 4, rfl, kp4.bag.same s5, by decide, by decide, fun m H5 m0 m1 kp5 => ?_⟩
        obtain ⟨k, k0, k1, ek⟩ : ∃ k : Int, 0 ≤ k ∧ k ≤ 2 ∧ atI [V.int 0, V.int 0, V.int 1, V.int 2] m = some (.int k) := by
          rcases (by omega : m = 0 ∨ m = 1 ∨ m = 2 ∨ m = 3) with rfl | rfl | rfl | rfl
          · exact ⟨0, by decide, by decide, rfl⟩
          · exact ⟨0, by decide, by decide, rfl⟩
          · exact ⟨1, by decide, by decide, rfl⟩
          · exact ⟨2, by decide, by decide, rfl⟩
        refine ⟨_, _, _, rfl, rfl, kp5.lst (kp4.bag.same s5) upd_same, .int k, ek, ?_⟩
        refine ⟨k, rfl, by omega, by omega, for_range (lo := 0) (n := k.toNat) (fun i σ H' => ∃ (z : Str) (v w : Option V), σ = [some (.ref b), some (.str z), v, some (.int e), w] ∧ z.length ≤ 660 + i ∧ (∀ c ∈ z.cps.toList, c ∈ signs2.cps.toList ∨ c = 9) ∧ Kp b H H') ⟨z, v, none, rfl, by omega, fun c hc => .inl (hall c hc), (kp4.then s5).trans kp5⟩ ?_ ?_⟩
        · rintro i σ H' hi ⟨z, v, w, rfl, hz, hall, kp6⟩
          clear k5
          walk_at "rd"
          refine ⟨sz (by omega), b, _, rfl, kp6.bag, by omega, by omega, fun x H7 x0 x1 kp7 => ?_⟩
          walk_at "rd"
          have c1 := cut_two z x x0 (by omega)
          have tl : (Str.ofString "\t").length = 1 := rfl
          refine ⟨sz (by omega), sz (by omega), sz (by omega), sz (by rw [len_app]; omega), by rw [len_app, len_app]; omega, fun c hc => ?_, kp6.trans kp7⟩
          rw [list_app, list_app, List.mem_append, List.mem_append] at hc
          rcases hc with (hc | hc) | hc
          · exact hall c (cut_sub hc)
          · exact .inr (List.mem_singleton.mp hc)
          · exact hall c (cut_sub hc)
        · rintro σ H' ⟨z, v, w, rfl, hz, hall, kp6⟩
          refine k5 _ _ ?_
          clear k5
          walk_at "rd"
          exact q z H' ⟨by omega, hall⟩ kp6
      walk_at "rd"
      refine ite_i (fun h2 => ?_) (fun h2 => step z H3 hz2 hall (kp2.trans kp3))
      refine ⟨b, rfl, kp3.bag, fun c H4 hc kp4 => ?_⟩
      walk_at "rd"
      obtain ⟨l1, l2⟩ := mul_one c 201 (by decide)
      have l1' : (Txt.mul (S1 c) 201).length = 201 := l1
      refine ⟨by decide, by decide, (show 1 * 201 ≤ 1000000 by decide), sz (by omega), sz (by rw [len_app]; omega), step _ H4 ?_ (fun x hx => ?_) ((kp2.trans kp3).trans kp4)⟩
      · have := cut_hi (z ++ Txt.mul (S1 c) 201) (196 + e) (by omega)
        omega
      · have hx := cut_sub hx
        rw [list_app, List.mem_append] at hx
        rcases hx with hx | hx
        · exact hall x hx
        · rw [l2 x hx]
          exact hc
end
section
variable {P : Program} {w : World} {K : PySem.W.Frag} {mg : Str → Option Value} {base : Heap}
theorem ok__law_check (S : Src K mg "_law_check" s__law_check) (T : Tx P K mg) (C_check_text : Cal P w K mg base (L2.CX P w) 3 "check_text" ["text"] (spCT K))  : Cal P w K mg base CX0 4 "_law_check" ["_law_thing"] spCheck := by
  refine S.cal sc__law_check bn__law_check (fun vs H Q E h => ?_) (fun f cdv A outer s H vs Q E hr h => ?_)
  · first | (obtain ⟨rfl, _⟩ := h; rfl) | (obtain ⟨_, rfl, _⟩ := h; rfl) | (obtain ⟨_, _, rfl, _⟩ := h; rfl) | (obtain ⟨_, _, _, rfl, _⟩ := h; rfl) | (obtain ⟨_, _, _, _, rfl, _⟩ := h; rfl) | (obtain ⟨_, _, _, _, _, rfl, _⟩ := h; rfl) | (obtain ⟨_, _, _, _, _, _, rfl, _⟩ := h; rfl)
  · skip
    refine ⟨_, (pss_cons (ps_try_as (i := 2) rfl rfl sc__law_check.nd rfl rfl ⟨rfl, by decide, Or.inl T.g_FableError⟩ takes0 (fun W pn xe tk _ => (pss_one (ps_set (i := 1) sc__law_check.nd rfl (Or.inl rfl) (Fx.pe_calS C_check_text (hr.mono (by decide)) tk (Fx.pa_c (pv 0) pa_nil))))) (fun a oe cls d pn hz hf => (pss_cons (ps_if (PW.pt (pw_or (pt_not (pt_val (Fx.pe_cB (call_isY hz hf) T.b_isinstance (by decide +kernel) (Fx.pa_c (pv 2) (Fx.pa_c (pe_glob (v := .ref (He.ga K "BadText")) rfl T.g_BadText rfl) pa_nil))))) (pw_or1 (pt_not (pt_val (Fx.pe_cB (call_isY hz hf) T.b_isinstance (by decide +kernel) (Fx.pa_c (pv 2) (Fx.pa_c (pe_bltn (v := .ty "ValueError") (by rfl) T.b_ValueError (by decide +kernel) rfl) pa_nil)))))))) (pss_one (ps_ret (pe_lst (Fx.pa_c pe_str pa_nil)))) pss_nil)
        (pss_cons (ps_if (PW.pt (pw_or (pt_val (Fx.pe_cB (call_isY hz hf) T.b_isinstance (by decide +kernel) (Fx.pa_c (pv 2) (Fx.pa_c (pe_glob (v := .ref (He.ga K "BadLot")) rfl T.g_BadLot rfl) pa_nil)))) (pw_or (pt_val (Fx.pe_cB (call_isY hz hf) T.b_isinstance (by decide +kernel) (Fx.pa_c (pv 2) (Fx.pa_c (pe_glob (v := .ref (He.ga K "BadWord")) rfl T.g_BadWord rfl) pa_nil)))) (pw_or1 (pt_val (Fx.pe_cB (call_isY hz hf) T.b_isinstance (by decide +kernel) (Fx.pa_c (pv 2) (Fx.pa_c (pe_glob (v := .ref (He.ga K "TooMany")) rfl T.g_TooMany rfl) pa_nil)))))))) (pss_one (ps_ret (pe_lst (Fx.pa_c pe_str pa_nil)))) pss_nil)
        (pss_one (ps_ret (pe_lst (Fx.pa_c pe_str (Fx.pa_c (pe_xf (XC.xfc T.x_BadText) T.x_BadText.noF hz hf (pv 2)) pa_nil)))))))))
        (pss_cons (ps_if (pt_cmpR op_isN (pv 1) pe_non (nomark _)) (pss_one (ps_ret (pe_lst (Fx.pa_c pe_str pa_nil)))) pss_nil)
        (pss_one (ps_ret (pe_lst (Fx.pa_c pe_str pa_nil)))))), ?_⟩
    obtain ⟨v, r, rfl, hj, q⟩ := h
    refine seqI fun K1 k1 => ?_
    refine ⟨v, rfl, v, r, rfl, hj, fun er H' sH => ?_, fun i er dd H' sH nd ed => ?_⟩
    · subst er
      refine k1 _ _ ?_
      clear k1
      walk_at "rd"
      exact ⟨by decide, fun p np => q p _ (sH.trans (same_new np)) (sH.free np) upd_same⟩
    · subst er
      clear k1
      refine ⟨true, T.m_FableError, fun _ a0 na => ?_, fun z => Bool.noConfusion z⟩
      have efs : ∃ fs, H' dd = some (.xd fs) := ⟨_, ed⟩
      walk_at "rd"
      simp only [rIsY, tXf]
      walk_at "rd"
      simp only [Value.ref.injEq, exists_eq_left', clsVal, Option.some.injEq, T.e_BadText, T.k_BadText, T.k_VE, T.k_BadLot, T.k_BadWord, T.k_TooMany, true_and, Bool.not_true, Bool.false_eq_true, if_false, ed, HO.xd.injEq, exists_eq_left, exists_eq', List.lookup, beq_self_eq_true]
      exact ⟨by decide, fun p np => q p _ (sH.trans (same_new np)) (sH.free np) upd_same⟩
end
section
variable {P : Program} {w : World} {K : PySem.W.Frag} {mg : Str → Option Value} {base : Heap}
theorem ok__law_refused (S : Src K mg "_law_refused" s__law_refused) (T : Tx P K mg) (C__law_check : Cal P w K mg base CX0 4 "_law_check" ["_law_thing"] spCheck) (C__law_integer : Cal P w K mg base CX0 1 "_law_integer" ["_law_thing"] spInteger)  : Cal P w K mg base CX0 5 "_law_refused" ["_law_thing", "_law_place"] spRefused := by
  refine S.cal sc__law_refused bn__law_refused (fun vs H Q E h => ?_) (fun f cdv A outer s H vs Q E hr h => ?_)
  · first | (obtain ⟨rfl, _⟩ := h; rfl) | (obtain ⟨_, rfl, _⟩ := h; rfl) | (obtain ⟨_, _, rfl, _⟩ := h; rfl) | (obtain ⟨_, _, _, rfl, _⟩ := h; rfl) | (obtain ⟨_, _, _, _, rfl, _⟩ := h; rfl) | (obtain ⟨_, _, _, _, _, rfl, _⟩ := h; rfl) | (obtain ⟨_, _, _, _, _, _, rfl, _⟩ := h; rfl)
  · skip
    refine ⟨_, (pss_cons (ps_set (i := 2) sc__law_refused.nd rfl (Or.inl rfl) (Fx.pe_cal C__law_check (hr.mono (by decide)) pass0 (Fx.pa_c (pv 0) pa_nil)))
        (pss_one (ps_ret (pe_and (pe_cmpR op_eq (Fx.pe_cB Fx.len_L T.b_len (by decide +kernel) (Fx.pa_c (pv 2) pa_nil)) pe_int (nomark _)) (pe_and (Fx.pe_cal C__law_integer (hr.mono (by decide)) pass0 (Fx.pa_c (pe_ix Fx.ix_L (pv 2) pe_int (fun _ _ => rfl)) pa_nil)) (pe_one (pe_cmpR (Fx.eq_LL hr.units) (pv 2) (pe_lst (Fx.pa_c pe_str (Fx.pa_c (pv 1) pa_nil))) (nomark _)))))))), ?_⟩
    obtain ⟨v, i, rfl, hj, q⟩ := h
    refine seqI fun K1 k1 => ?_
    walk_at "rd"
    refine ⟨v, some i, rfl, hj, fun p H' sH np ep => k1 _ _ ?_⟩
    clear k1
    walk_at "rd"
    simp only [ep, ansV]
    walk_at "rd"
    refine ite_i (fun _ => ?_) (fun hn => absurd rfl hn)
    refine ⟨.int i, rfl, i, rfl, true, rfl, ?_⟩
    walk_at "rd"
    refine ⟨by decide, fun l nl => ⟨_, same_new nl _ _ ep, ans_ok (some i), ans_ok (some i), ?_⟩⟩
    have e2 : decide (ansV (some i) = [V.str "refused", V.int i]) = true := decide_eq_true rfl
    rw [e2]
    exact q _ (sH.trans (same_new nl))
end
section
variable {P : Program} {w : World} {K : PySem.W.Frag} {mg : Str → Option Value} {base : Heap}
theorem ok__law_judged (S : Src K mg "_law_judged" s__law_judged) (T : Tx P K mg) (C__law_refused : Cal P w K mg base CX0 5 "_law_refused" ["_law_thing", "_law_place"] spRefused) (C__law_check : Cal P w K mg base CX0 4 "_law_check" ["_law_thing"] spCheck)  : Cal P w K mg base CX0 6 "_law_judged" ["_law_text"] spJudged := by
  refine S.cal sc__law_judged bn__law_judged (fun vs H Q E h => ?_) (fun f cdv A outer s H vs Q E hr h => ?_)
  · first | (obtain ⟨rfl, _⟩ := h; rfl) | (obtain ⟨_, rfl, _⟩ := h; rfl) | (obtain ⟨_, _, rfl, _⟩ := h; rfl) | (obtain ⟨_, _, _, rfl, _⟩ := h; rfl) | (obtain ⟨_, _, _, _, rfl, _⟩ := h; rfl) | (obtain ⟨_, _, _, _, _, rfl, _⟩ := h; rfl) | (obtain ⟨_, _, _, _, _, _, rfl, _⟩ := h; rfl)
  · skip
    refine ⟨_, (pss_cons (ps_if (pt_cmpR op_gt (Fx.pe_cB Fx.len_S T.b_len (by decide +kernel) (Fx.pa_c (pv 0) pa_nil)) pe_int (nomark _)) (pss_one (ps_ret (Fx.pe_cal C__law_refused (hr.mono (by decide)) pass0 (Fx.pa_c (pv 0) (Fx.pa_c (pe_un un_neg pe_int) pa_nil))))) pss_nil)
        (pss_cons (ps_if (pt_cmpR op_in_sign pe_str (pv 0) rfl) (pss_one (ps_ret (Fx.pe_cal C__law_refused (hr.mono (by decide)) pass0 (Fx.pa_c (pv 0) (Fx.pa_c (pe_m1 PySem.F.slot_str_find PySem.F.type_str_find mt_find (pv 0) pe_str) pa_nil))))) pss_nil)
        (pss_one (ps_ret (pe_cmpR (Fx.eq_LL hr.units) (Fx.pe_cal C__law_check (hr.mono (by decide)) pass0 (Fx.pa_c (pv 0) pa_nil)) (pe_lst (Fx.pa_c pe_str pa_nil)) (nomark _)))))), ?_⟩
    obtain ⟨z, rfl, hz, q⟩ := h
    walk_at "rd"
    have hl := hz.len
    refine ⟨sz (by omega), ite_i (fun h2 => ?_) (fun h2 => ?_)⟩
    · refine ⟨.str z, -1, rfl, .inl ⟨z, rfl, by omega, ?_⟩, q⟩
      unfold judge
      rw [if_pos (by omega)]
    · refine ⟨9, rfl, ite_i (fun h9 => ?_) (fun h9 => ?_)⟩
      · refine ⟨.str z, _, rfl, .inl ⟨z, rfl, by omega, ?_⟩, q⟩
        unfold judge
        rw [if_neg (by omega)]
        exact tab_found hz.all h9
      · refine ⟨.str z, none, rfl, .inl ⟨z, rfl, by omega, ?_⟩, fun p H' sH np ep => ?_⟩
        · unfold judge
          rw [if_neg (by omega)]
          exact no_tab hz.all h9
        · refine ⟨by decide, fun l nl => ⟨p, rfl, _, same_new nl _ _ ep, ans_ok none, ans_ok none, ?_⟩⟩
          have e : decide (ansV none = [V.str "fine"]) = true := decide_eq_true rfl
          rw [e]
          exact q _ (sH.trans (same_new nl))
end
section
variable {P : Program} {w : World} {K : PySem.W.Frag} {mg : Str → Option Value} {base : Heap}
theorem ok_law {f0 : Addr} {fd : FuncData} (F : FunD K "law" "law" (defArgs s_law) (defBody s_law) (defScope s_law) [] [] f0 fd) (T : Tx P K mg) (C__law_bag : Cal P w K mg base CX0 1 "_law_bag" ["_law_script"] (spBag K)) (C__law_pick : Cal P w K mg base CX0 1 "_law_pick" ["_law_bag_here", "_law_many"] spPick) (C__law_sign : Cal P w K mg base CX0 3 "_law_sign" ["_law_bag_here"] spSign) (C_codes : Cal P w K mg base CX0 1 "codes" ["sign"] spCodes) (C__law_codes : Cal P w K mg base CX0 1 "_law_codes" ["_law_sign_here"] spLCodes) (C__law_numbers : Cal P w K mg base CX0 2 "_law_numbers" ["_law_actual", "_law_due"] spNumbers) (C__law_long_text : Cal P w K mg base CX0 4 "_law_long_text" ["_law_bag_here"] spLong) (C__law_judged : Cal P w K mg base CX0 6 "_law_judged" ["_law_text"] spJudged) (C__law_refused : Cal P w K mg base CX0 5 "_law_refused" ["_law_thing", "_law_place"] spRefused)  : FnOk P w K mg base CX0 7 f0 fd ["_law_script"] (spLaw K) := by
  refine lawT F sc_law rfl (fun vs H Q E h => ?_) (fun f cdv A outer s H vs Q E hr h => ?_)
  · first | (obtain ⟨rfl, _⟩ := h; rfl) | (obtain ⟨_, rfl, _⟩ := h; rfl) | (obtain ⟨_, _, rfl, _⟩ := h; rfl) | (obtain ⟨_, _, _, rfl, _⟩ := h; rfl) | (obtain ⟨_, _, _, _, rfl, _⟩ := h; rfl) | (obtain ⟨_, _, _, _, _, rfl, _⟩ := h; rfl) | (obtain ⟨_, _, _, _, _, _, rfl, _⟩ := h; rfl)
  · skip
    have h0 : PS (cxOf CX0 P w K mg base N_law "law" (defScope s_law) f cdv A outer s H E) ((defBody s_law).getD 0 noSt) _ := (ps_set (i := 1) sc_law.nd rfl (Or.inr rfl) (Fx.pe_cal C__law_bag (hr.mono (by decide)) pass0 (Fx.pa_c (pv 0) pa_nil)))
    have h1 : PS (cxOf CX0 P w K mg base N_law "law" (defScope s_law) f cdv A outer s H E) ((defBody s_law).getD 1 noSt) _ := (ps_setLc (i := 2) (own := [("_law_step", 6)]) rfl sc_law.nd rfl rfl (sw_true rfl rfl rfl (by decide +kernel)) (pi_range1 rfl T.b_range (Fx.pa_c (pe_op op_add pe_int (Fx.pe_cal C__law_pick (hr.mono (by decide)) pass0 (Fx.pa_c (pv 1) (Fx.pa_c pe_int pa_nil)))) pa_nil)) (blkOk_by (N := N_law) (sc := defScope s_law) (by decide +kernel)) (fun _ _ _ _ _ => (pg_name (i := 6) sc_law.nd rfl (Or.inl rfl))) (fun _ _ _ _ _ => pts_nil) (fun _ _ _ _ _ => (Fx.pe_cal C__law_sign (hr.mono (by decide)) pass0 (Fx.pa_c (pv 1) pa_nil))))
    have h2 : PS (cxOf CX0 P w K mg base N_law "law" (defScope s_law) f cdv A outer s H E) ((defBody s_law).getD 2 noSt) _ := (ps_for (passes_of rfl) rfl (pi_list (pe_op op_cat (pv 2) (pe_slice Fx.sl_L (pv 2) po_none (po_some pe_int)))) (pg_name (i := 3) sc_law.nd rfl (Or.inl rfl)) (pss_one (ps_if (pt_not (pt_val (Fx.pe_cal C__law_numbers (hr.mono (by decide)) pass0 (Fx.pa_c (Fx.pe_cal C_codes (hr.mono (by decide)) pass0 (Fx.pa_c (pv 3) pa_nil)) (Fx.pa_c (Fx.pe_cal C__law_codes (hr.mono (by decide)) pass0 (Fx.pa_c (pv 3) pa_nil)) pa_nil))))) (pss_one (ps_ret pe_bl)) pss_nil)))
    have h3 : PS (cxOf CX0 P w K mg base N_law "law" (defScope s_law) f cdv A outer s H E) ((defBody s_law).getD 3 noSt) _ := (ps_set (i := 4) sc_law.nd rfl (Or.inl rfl) (Fx.pe_cal C__law_long_text (hr.mono (by decide)) pass0 (Fx.pa_c (pv 1) pa_nil)))
    have h4 : PZ1 (cxOf CX0 P w K mg base N_law "law" (defScope s_law) f cdv A outer s H E) ((defBody s_law).getD 4 noSt) _ := (pz_ifT (PWT.pt (pwt_or (pt_not (pt_val (Fx.pe_cal C__law_judged (hr.mono (by decide)) pass0 (Fx.pa_c (pv 4) pa_nil)))) (pwt_or1 (ptt_not (ptt_val (pet_cal C__law_judged (hr.mono (by decide)) pass0 (pat_cons (pet_slice sl_str (CwR.pet_replC (pv 4)) po_none (po_some pe_int)) pat_nil))))))) (pss_one (ps_ret pe_bl)) pss_nil)
    have tl : PSs (cxOf CX0 P w K mg base N_law "law" (defScope s_law) f cdv A outer s H E) ((defBody s_law).drop 5) _ := (pss_cons (ps_set (i := 5) sc_law.nd rfl (Or.inl rfl) (pe_ix Fx.ix_L (pe_lst (Fx.pa_c pe_non (Fx.pa_c pe_int (Fx.pa_c pe_bl (Fx.pa_c (pe_tup (Fx.pa_c pe_str pa_nil)) (Fx.pa_c (pe_lst (Fx.pa_c pe_str (Fx.pa_c pe_str pa_nil))) (Fx.pa_c (pe_lst pa_nil) (Fx.pa_c (pe_tup pa_nil) (Fx.pa_c (pe_un un_neg pe_int) (Fx.pa_c (pe_op op_pow pe_int pe_int) (Fx.pa_c (pe_disp (pps_cons pe_str pe_str pps_nil) (by rfl) (by rfl) (fun z => by cases z) (by decide)) pa_nil))))))))))) (Fx.pe_cal C__law_pick (hr.mono (by decide)) pass0 (Fx.pa_c (pv 1) (Fx.pa_c pe_int pa_nil))) (fun _ _ => rfl)))
        (pss_one (ps_ret (pe_and (Fx.pe_cal C__law_refused (hr.mono (by decide)) pass0 (Fx.pa_c (pv 5) (Fx.pa_c (pe_un un_neg pe_int) pa_nil))) (pe_one (Fx.pe_cal C__law_judged (hr.mono (by decide)) pass0 (Fx.pa_c (pe_slice sl_str (pv 4) po_none (po_some pe_int)) pa_nil)))))))
    refine ⟨_, (pz_at0 (pz_at (i := 0) (by decide +kernel) h0 (pz_at (i := 1) (by decide +kernel) h1 (pz_at (i := 2) (by decide +kernel) h2 (pz_at (i := 3) (by decide +kernel) h3 (pz_at1 (i := 4) (by decide +kernel) h4 (PZ.of tl))))))), ?_⟩
    clear h0
    clear h1
    clear h2
    clear h3
    clear h4
    clear tl
    obtain ⟨a, ns, rfl, hS, hlen, q⟩ := h
    refine seqI fun K1 k1 => ?_
    walk_at "rd"
    refine ⟨a, ns, rfl, hS, hlen, fun b H1 s1 nb hB => k1 _ _ ?_⟩
    clear k1
    refine seqI fun K2 k2 => ?_
    refine ⟨.ref b, rfl, b, 8, rfl, hB, by decide, by decide, fun n H2 n0 n1 kp1 => ?_⟩
    refine ⟨1, n, rfl, rfl, 1 + n, rfl, by omega, by omega, fun D nD => ?_⟩
    refine lc_range (lo := 0) (n := (1 + n).toNat) (fun i H3 => ∃ cs : List Nat, cs.length = i ∧ (∀ c ∈ cs, c ∈ signs2.cps.toList) ∧ H3 D = some (.lst (cs.map fun c => V.str (S1 c))) ∧ Kp b H2 H3) ⟨[], rfl, fun c h => by (cases h), upd_same, Kp.put kp1.bag (Kp.refl kp1.bag) nD⟩ ?_ ?_
    · rintro i H3 hi ⟨cs, hcs, hall, hD, kp2⟩
      refine ⟨rfl, ?_⟩
      walk_at "rd"
      refine ⟨b, rfl, kp2.bag, fun c H4 hc kp3 => ?_⟩
      refine ⟨_, kp3.lst kp2.bag hD, ?_, cs ++ [c], ?_, ?_, ?_, Kp.put kp1.bag (kp2.trans kp3) nD⟩
      · rw [List.length_map]
        exact Nat.lt_of_lt_of_le (by omega : cs.length < 100) (by decide)
      · rw [List.length_append]
        show cs.length + 1 = _
        omega
      · intro x hx
        rcases List.mem_append.mp hx with hx | hx
        · exact hall x hx
        · rw [List.mem_singleton.mp hx]
          exact hc
      · rw [List.map_append]
        rfl
    rintro H3 ⟨cs, hcs, hall, hD, kp2⟩
    refine k2 _ _ ?_
    clear k2
    refine seqI fun K3 k3 => ?_
    clear kp1
    have sc : ∀ x ∈ cutV (cs.map fun c => V.str (S1 c)) none (some 1), x ∈ cs.map fun c => V.str (S1 c) := fun x hx => List.mem_of_mem_drop (List.mem_of_mem_take hx)
    have lc := cutV_length (cs.map fun c => V.str (S1 c)) none (some 1)
    obtain ⟨ds, eds⟩ : ∃ ds, ds = cutV (cs.map fun c => V.str (S1 c)) none (some 1) := ⟨_, rfl⟩
    rw [← eds] at sc lc
    refine ⟨.ref D, rfl, .ref D, rfl, 1, rfl, D, _, rfl, hD, fun p np => ?_⟩
    rw [← eds]
    have s4 := same_new (o := .lst ds) np
    refine ⟨D, p, _, _, rfl, rfl, s4 _ _ hD, upd_same, ?_, fun r nr => ?_⟩
    · rw [List.length_map] at lc ⊢
      exact sz (by omega)
    have s5 := same_new (o := .lst (cs.map (fun c => V.str (S1 c)) ++ ds)) nr
    have hR : ∀ x ∈ cs.map (fun c => V.str (S1 c)) ++ ds, ∃ c, x = V.str (S1 c) := by
      intro x hx
      have hx2 : x ∈ cs.map fun c => V.str (S1 c) := by
        rcases List.mem_append.mp hx with hx | hx
        · exact hx
        · exact sc x hx
      obtain ⟨c, _, e⟩ := List.mem_map.mp hx2
      exact ⟨c, e.symm⟩
    generalize cs.map (fun c => V.str (S1 c)) ++ ds = rs at s5 hR
    have kp4 := (kp2.then s4).then s5
    have hr0 : (upd (upd H3 p (.lst ds)) r (.lst rs)) r = some (.lst rs) := upd_same
    generalize upd (upd H3 p (.lst ds)) r (.lst rs) = H5 at kp4 hr0
    clear s4 s5 np nr
    refine ⟨r, rfl, ⟨_, .inl (.inl hr0)⟩, for_list (K := K) (a := r) (xs := rs) (fun i σ H6 => ∃ v, σ = [some (.ref a), some (.ref b), some (.ref D), v, none, none, none] ∧ Same H5 H6) ⟨none, rfl, Same.refl _⟩ (fun i σ H6 _ ⟨_, _, e⟩ => .inl (.inl (e _ _ hr0))) ?_ ?_⟩
    · rintro i x σ H6 hx ⟨v, rfl, s6⟩
      obtain ⟨c, rfl⟩ := hR x (List.mem_of_getElem? hx)
      clear k3
      walk_at "rd"
      refine ⟨c, rfl, fun p1 H7 s7 n7 e7 => ⟨c, rfl, fun p2 H8 s8 n8 e8 => ?_⟩⟩
      refine ⟨p1, p2, codeL c, rfl, s8 _ _ e7, e8, ?_, fun H9 s9 => ?_⟩
      · unfold codeL
        split
        · show 1 ≤ 1000
          decide
        · split
          · show 2 ≤ 1000
            decide
          · split
            · show 2 ≤ 1000
              decide
            · show 3 ≤ 1000
              decide
      · walk_at "rd"
        exact ((s6.trans s7).trans s8).trans s9
    rintro σ H6 ⟨v, rfl, s6⟩
    refine k3 _ _ ?_
    clear k3
    have kp6 := kp4.then s6
    clear s6 kp4
    refine seqI fun K4 k4 => ?_
    walk_at "rd"
    refine ⟨b, rfl, kp6.bag, fun z H7 hz kp7 => k4 _ _ ?_⟩
    clear k4
    refine seqI fun K5 k5 => ?_
    walk_at "rd"
    refine ⟨z, rfl, hz, fun H8 s8 => ⟨true, rfl, ?_⟩⟩
    rw [if_neg (by decide)]
    simp only [CwR.tReplC]
    walk_at "rd"
    have hzl := hz.len
    refine ⟨?_, sz (Nat.le_trans (repl_ok hz).len (by decide)), cutS (Txt.replace z "\t" "") none (some 200), rfl, cut_ok (repl_ok hz), fun H9 s9 => ⟨true, rfl, ?_⟩⟩
    · show z.length + (z.length + 1) * 0 ≤ _
      omega
    rw [if_neg (by decide)]
    refine k5 _ _ ?_
    clear k5
    have kp9 := (kp7.then s8).then s9
    clear s8 s9
    refine seqI fun K6 k6 => ?_
    simp only [tDisp, tPairs]
    walk_at "rd"
    refine ⟨by decide, fun p3 n3 => ⟨by decide, fun p4 n4 => ⟨by decide, fun p5 n5 => ⟨by decide, fun p6 n6 => ⟨⟨by decide, by decide, by decide⟩, fun p7 n7 => ?_⟩⟩⟩⟩⟩
    simp only [tPairs]
    walk_at "rd"
    refine ⟨[(.inr "a", .str "b")], rfl, (show 1 ≤ 15 by decide), by decide, fun p8 n8 => ?_⟩
    have t3 := same_new (o := .tup [.str "a"]) n3
    have t4 := same_new (o := .lst [.str "a", .str "b"]) n4
    have t5 := same_new (o := .lst []) n5
    have t6 := same_new (o := .tup []) n6
    rw [upd_upd] at n8 ⊢
    have t7 := same_new (o := .dK (mergeK [] [(.inr "a", .str "b")])) n7
    have t8 := same_new (o := .lst [V.non, V.int 7, V.bl true, V.ref p3, V.ref p4, V.ref p5, V.ref p6, V.int (-1), V.int (10 ^ Int.toNat 30), V.ref p7]) n8
    have kpA := ((((((kp9.then t3).then t4).then t5).then t6).then t7).then t8)
    refine ⟨b, 10, rfl, kpA.bag, by decide, by decide, fun m H10 m0 m1 kpB => ?_⟩
    have fin : ∀ v1, JudgedBy H10 v1 (some (-1)) → K6 [some (.ref a), some (.ref b), some (.ref D), v, some (.str z), some v1, none] H10 := by
      intro v1 hj
      refine k6 _ _ ?_
      clear k6
      walk_at "rd"
      refine ⟨v1, -1, rfl, hj, fun H11 s11 => ⟨true, rfl, ?_⟩⟩
      rw [if_pos rfl]
      exact ⟨sz (by omega), cutS z none (some 3), rfl, cut_ok hz, fun H12 _ => q H12⟩
    have B8 := kpA.bag
    have e3 : H10 p3 = some (.tup [.str "a"]) := kpB.tup B8 (t8 _ _ (t7 _ _ (t6 _ _ (t5 _ _ (t4 _ _ upd_same)))))
    have e4 : H10 p4 = some (.lst [.str "a", .str "b"]) := kpB.lst B8 (t8 _ _ (t7 _ _ (t6 _ _ (t5 _ _ upd_same))))
    have e5 : H10 p5 = some (.lst []) := kpB.lst B8 (t8 _ _ (t7 _ _ (t6 _ _ upd_same)))
    have e6 : H10 p6 = some (.tup []) := kpB.tup B8 (t8 _ _ (t7 _ _ upd_same))
    have h7 : (upd (upd (upd (upd (upd (upd H9 p3 (.tup [.str "a"])) p4 (.lst [.str "a", .str "b"])) p5 (.lst [])) p6 (.tup [])) p7 (.dK (mergeK [] [(.inr "a", .str "b")]))) p8 (.lst [V.non, V.int 7, V.bl true, V.ref p3, V.ref p4, V.ref p5, V.ref p6, V.int (-1), V.int (10 ^ Int.toNat 30), V.ref p7])) p7 = some (.dK (mergeK [] [(.inr "a", .str "b")])) := t8 _ _ upd_same
    have e7 : ∃ kvs, H10 p7 = some (.dK kvs) := by
      by_cases e : p7 = b
      · rw [e]
        exact kpB.bag.some
      · exact ⟨_, kpB.keep _ _ e h7⟩
    obtain ⟨kvs, e7⟩ := e7
    refine ⟨m, rfl, _, kpB.lst B8 upd_same, ?_⟩
    rcases (by omega : m = 0 ∨ m = 1 ∨ m = 2 ∨ m = 3 ∨ m = 4 ∨ m = 5 ∨ m = 6 ∨ m = 7 ∨ m = 8 ∨ m = 9) with rfl | rfl | rfl | rfl | rfl | rfl | rfl | rfl | rfl | rfl
    · exact ⟨_, rfl, fin _ (.inr ⟨_, tyv_non, kb_none_str, rfl⟩)⟩
    · exact ⟨_, rfl, fin _ (.inr ⟨_, tyv_int, kb_int_str, rfl⟩)⟩
    · exact ⟨_, rfl, fin _ (.inr ⟨_, tyv_bl, kb_bool_str, rfl⟩)⟩
    · exact ⟨_, rfl, fin _ (.inr ⟨_, tyv_tup e3, kb_tuple_str, rfl⟩)⟩
    · exact ⟨_, rfl, fin _ (.inr ⟨_, tyv_lst e4, kb_list_str, rfl⟩)⟩
    · exact ⟨_, rfl, fin _ (.inr ⟨_, tyv_lst e5, kb_list_str, rfl⟩)⟩
    · exact ⟨_, rfl, fin _ (.inr ⟨_, tyv_tup e6, kb_tuple_str, rfl⟩)⟩
    · exact ⟨_, rfl, fin _ (.inr ⟨_, tyv_int, kb_int_str, rfl⟩)⟩
    · exact ⟨_, rfl, fin _ (.inr ⟨_, tyv_int, kb_int_str, rfl⟩)⟩
    · exact ⟨_, rfl, fin _ (.inr ⟨_, tyv_dK e7, kb_dict_str, rfl⟩)⟩
end
def d_f_check_text : He.DefD := ⟨("check_text", none), "check_text", "check_text", defArgs s_check_text, defBody s_check_text, defScope s_check_text, [], []⟩
def d_f_codes : He.DefD := ⟨("codes", none), "codes", "codes", defArgs s_codes, defBody s_codes, defScope s_codes, [], []⟩
def d_f__law_bag : He.DefD := ⟨("_law_bag", none), "_law_bag", "_law_bag", defArgs s__law_bag, defBody s__law_bag, defScope s__law_bag, [], []⟩
def d_f__law_pick : He.DefD := ⟨("_law_pick", none), "_law_pick", "_law_pick", defArgs s__law_pick, defBody s__law_pick, defScope s__law_pick, [], []⟩
def d_f__law_choice : He.DefD := ⟨("_law_choice", none), "_law_choice", "_law_choice", defArgs s__law_choice, defBody s__law_choice, defScope s__law_choice, [], []⟩
def d_f__law_integer : He.DefD := ⟨("_law_integer", none), "_law_integer", "_law_integer", defArgs s__law_integer, defBody s__law_integer, defScope s__law_integer, [], []⟩
def d_f__law_signs : He.DefD := ⟨("_law_signs", none), "_law_signs", "_law_signs", defArgs s__law_signs, defBody s__law_signs, defScope s__law_signs, [], []⟩
def d_f__law_codes : He.DefD := ⟨("_law_codes", none), "_law_codes", "_law_codes", defArgs s__law_codes, defBody s__law_codes, defScope s__law_codes, [], []⟩
def d_f__law_sign : He.DefD := ⟨("_law_sign", none), "_law_sign", "_law_sign", defArgs s__law_sign, defBody s__law_sign, defScope s__law_sign, [], []⟩
def d_f__law_numbers : He.DefD := ⟨("_law_numbers", none), "_law_numbers", "_law_numbers", defArgs s__law_numbers, defBody s__law_numbers, defScope s__law_numbers, [], []⟩
def d_f__law_long_text : He.DefD := ⟨("_law_long_text", none), "_law_long_text", "_law_long_text", defArgs s__law_long_text, defBody s__law_long_text, defScope s__law_long_text, [], []⟩
def d_f__law_check : He.DefD := ⟨("_law_check", none), "_law_check", "_law_check", defArgs s__law_check, defBody s__law_check, defScope s__law_check, [], []⟩
def d_f__law_refused : He.DefD := ⟨("_law_refused", none), "_law_refused", "_law_refused", defArgs s__law_refused, defBody s__law_refused, defScope s__law_refused, [], []⟩
def d_f__law_judged : He.DefD := ⟨("_law_judged", none), "_law_judged", "_law_judged", defArgs s__law_judged, defBody s__law_judged, defScope s__law_judged, [], []⟩
def d_f_law : He.DefD := ⟨("law", none), "law", "law", defArgs s_law, defBody s_law, defScope s_law, [], []⟩
def fn : List He.DefD := [d_f_check_text, d_f_codes, d_f__law_bag, d_f__law_pick, d_f__law_choice, d_f__law_integer, d_f__law_signs, d_f__law_codes, d_f__law_sign, d_f__law_numbers, d_f__law_long_text, d_f__law_check, d_f__law_refused, d_f__law_judged, d_f_law]
def d_BadLot : FxH.InD := ⟨"BadLot", "word", "BadLot.__init__", inClass (top 3) 0⟩
theorem bd_BadLot : ∀ (fd : FuncData) (p1 p2 : Pos), fd.params = xA d_BadLot.f p1 p2 → fd.defaults = .none → ∀ (u1 u2 : Value), bindArgs fd ⟨[u1, u2], []⟩ = pure [(("self" : Str), u1), (d_BadLot.f, u2)] := fun fd p1 p2 e1 e2 u1 u2 => by
  obtain ⟨n1, n2, n3, n4, n5, n6, n7, n8, n9, n10, n11, n12, n13, n14, n15⟩ := fd
  dsimp only at e1 e2
  subst e1 e2
  rfl
def d_BadText : FxH.InD := ⟨"BadText", "place", "BadText.__init__", inClass (top 2) 0⟩
theorem bd_BadText : ∀ (fd : FuncData) (p1 p2 : Pos), fd.params = xA d_BadText.f p1 p2 → fd.defaults = .none → ∀ (u1 u2 : Value), bindArgs fd ⟨[u1, u2], []⟩ = pure [(("self" : Str), u1), (d_BadText.f, u2)] := fun fd p1 p2 e1 e2 u1 u2 => by
  obtain ⟨n1, n2, n3, n4, n5, n6, n7, n8, n9, n10, n11, n12, n13, n14, n15⟩ := fd
  dsimp only at e1 e2
  subst e1 e2
  rfl
def d_BadWord : FxH.InD := ⟨"BadWord", "word", "BadWord.__init__", inClass (top 4) 0⟩
theorem bd_BadWord : ∀ (fd : FuncData) (p1 p2 : Pos), fd.params = xA d_BadWord.f p1 p2 → fd.defaults = .none → ∀ (u1 u2 : Value), bindArgs fd ⟨[u1, u2], []⟩ = pure [(("self" : Str), u1), (d_BadWord.f, u2)] := fun fd p1 p2 e1 e2 u1 u2 => by
  obtain ⟨n1, n2, n3, n4, n5, n6, n7, n8, n9, n10, n11, n12, n13, n14, n15⟩ := fd
  dsimp only at e1 e2
  subst e1 e2
  rfl
def d_TooMany : FxH.InD := ⟨"TooMany", "kind", "TooMany.__init__", inClass (top 5) 0⟩
theorem bd_TooMany : ∀ (fd : FuncData) (p1 p2 : Pos), fd.params = xA d_TooMany.f p1 p2 → fd.defaults = .none → ∀ (u1 u2 : Value), bindArgs fd ⟨[u1, u2], []⟩ = pure [(("self" : Str), u1), (d_TooMany.f, u2)] := fun fd p1 p2 e1 e2 u1 u2 => by
  obtain ⟨n1, n2, n3, n4, n5, n6, n7, n8, n9, n10, n11, n12, n13, n14, n15⟩ := fd
  dsimp only at e1 e2
  subst e1 e2
  rfl
def fi : List FxH.InD := [d_BadLot, d_BadText, d_BadWord, d_TooMany]
def fa : List FxH.Fct := [(He.Fa.free "ValueError").ok,
  (He.Fa.free "all").ok,
  (He.Fa.free "bool").ok,
  (He.Fa.free "enumerate").ok,
  (He.Fa.free "int").ok,
  (He.Fa.free "isinstance").ok,
  (He.Fa.free "len").ok,
  (He.Fa.free "list").ok,
  (He.Fa.free "ord").ok,
  (He.Fa.free "range").ok,
  (He.Fa.free "str").ok,
  (He.Fa.free "tuple").ok,
  (He.Fa.free "super").ok,
  (He.Fa.int "LONGEST" 200).ok,
  (He.Fa.str "ROW1" " etaonisrhld").ok,
  (He.Fa.str "ROW2" "cumfpgwybvkxjqz.").ok,
  (He.Fa.str "ROW3" "0123456789\n,'-!?").ok,
  (He.Fa.str "SIGNS" " !\"#$\n&'()*+,-./0123456789:;<=>?@ABCDEFGHIJKLMNOPQRSTUVWXYZ[\\]^_`abcdefghijklmnopqrstuvwxyz{|}~").ok,
  (He.Fa.glo "BadLot").ok,
  (fun K => FxH.excB K "BadLot"),
  (He.Fa.glo "BadText").ok,
  (fun K => FxH.excB K "BadText"),
  (He.Fa.glo "BadWord").ok,
  (fun K => FxH.excB K "BadWord"),
  (He.Fa.glo "FableError").ok,
  (He.Fa.glo "TooMany").ok,
  (fun K => FxH.excB K "TooMany"),
  (fun K => decide (PySem.W.kitOne K (.ref (He.ga K "BadText")) (.ref (He.ga K "BadText")) = some true)),
  (fun K => decide (PySem.W.kitOne K (.ref (He.ga K "BadText")) (.type "ValueError") = some true)),
  (fun K => decide (PySem.W.kitOne K (.ref (He.ga K "BadText")) (.ref (He.ga K "BadLot")) = some false)),
  (fun K => decide (PySem.W.kitOne K (.ref (He.ga K "BadText")) (.ref (He.ga K "BadWord")) = some false)),
  (fun K => decide (PySem.W.kitOne K (.ref (He.ga K "BadText")) (.ref (He.ga K "TooMany")) = some false)),
  (fun K => decide (PySem.W.exmOne K (.ref (He.ga K "BadText")) (.ref (He.ga K "FableError")) = some true)),
  (He.Fa.glo "check_text").ok,
  (He.Fa.glo "codes").ok,
  (He.Fa.glo "_law_bag").ok,
  (He.Fa.glo "_law_pick").ok,
  (He.Fa.glo "_law_choice").ok,
  (He.Fa.glo "_law_integer").ok,
  (He.Fa.glo "_law_signs").ok,
  (He.Fa.glo "_law_codes").ok,
  (He.Fa.glo "_law_sign").ok,
  (He.Fa.glo "_law_numbers").ok,
  (He.Fa.glo "_law_long_text").ok,
  (He.Fa.glo "_law_check").ok,
  (He.Fa.glo "_law_refused").ok,
  (He.Fa.glo "_law_judged").ok,
  (He.Fa.glo "law").ok]
abbrev R : PySem.W.OpenRow := PySem.W.OpenLaw.row PySem.Challenge.rw_fablemill_k07_codes_and_texts
def file : Str := PySem.Challenge.pw_fablemill_k07_codes_and_texts.main.file
abbrev hk : PySem.W.Hook := FxH.hookX 6 file fa fn fi
def ob (s : PySem.W.SharedT) : FxH.AlX := FxH.obsXG 6 file fa fn fi (HandSHeadRun.getT s)
theorem ob_eq (s : PySem.W.SharedT) : ob s = hk.obs s.abs := FxH.obsXG_eq (HandSHeadRun.getT_eq s)
def loose : List PySem.Str := (["FableError", "BadText", "BadLot", "BadWord", "TooMany", "ROW1", "ROW2", "ROW3", "SIGNS", "LONGEST", "check_text", "codes", "_law_bag", "_law_pick", "_law_choice", "_law_integer", "_law_signs", "_law_codes", "_law_sign", "_law_numbers", "_law_long_text", "_law_check", "_law_refused", "_law_judged"] : List PySem.Str)
theorem run (w : World) : HandSHeadRun.RunEq R (PySem.W.view R.prog [27]) hk ob 4000 loose w := by
  intro os
  kernel_rfl
theorem facts {w : World} {K : PySem.W.Frag} {h : Heap} {mg : Str → Option Value} {f : Addr} (X : K.In h) (G : h.Ns mainGlobals mg) (hfa : mg ("law" : Str) = some (.ref f)) (c : FxH.SaysX file fa fn fi K) :
    ∃ fd : FuncData, (∀ (s : Shared) (v : Value), BindsTo s fd ⟨[v], []⟩ [("_law_script", v)]) ∧ ∀ base : Heap, K.In base → base.Ns mainGlobals mg → FnOk PySem.Challenge.pw_fablemill_k07_codes_and_texts w K mg base CX0 7 f fd ["_law_script"] (spLaw K) := by
  have T : Tx PySem.Challenge.pw_fablemill_k07_codes_and_texts K mg := {
    b_ValueError := He.free_ok X G (c.fact 0),
    b_all := He.free_ok X G (c.fact 1),
    b_bool := He.free_ok X G (c.fact 2),
    b_enumerate := He.free_ok X G (c.fact 3),
    b_int := He.free_ok X G (c.fact 4),
    b_isinstance := He.free_ok X G (c.fact 5),
    b_len := He.free_ok X G (c.fact 6),
    b_list := He.free_ok X G (c.fact 7),
    b_ord := He.free_ok X G (c.fact 8),
    b_range := He.free_ok X G (c.fact 9),
    b_str := He.free_ok X G (c.fact 10),
    b_tuple := He.free_ok X G (c.fact 11),
    b_super := He.free_ok X G (c.fact 12),
    c_LONGEST := cst_int (He.int_ok X G (c.fact 13)),
    c_ROW1 := cst_str (He.str_ok X G (c.fact 14)),
    c_ROW2 := cst_str (He.str_ok X G (c.fact 15)),
    c_ROW3 := cst_str (He.str_ok X G (c.fact 16)),
    c_SIGNS := cst_str (He.str_ok X G (c.fact 17)),
    g_BadLot := He.glo_ok X G (c.fact 18),
    x_BadLot := FxH.InD.xc (P := PySem.Challenge.pw_fablemill_k07_codes_and_texts) (d := d_BadLot) (c.ini 0).1 (c.ini 0).2 (FOk.mk' (by decide +kernel) (by decide +kernel) (by decide +kernel) (by decide +kernel)) rfl rfl rfl rfl (bd_BadLot) (by decide +kernel),
    e_BadLot := FxH.excB_ok (c.fact 19),
    g_BadText := He.glo_ok X G (c.fact 20),
    x_BadText := FxH.InD.xc (P := PySem.Challenge.pw_fablemill_k07_codes_and_texts) (d := d_BadText) (c.ini 1).1 (c.ini 1).2 (FOk.mk' (by decide +kernel) (by decide +kernel) (by decide +kernel) (by decide +kernel)) rfl rfl rfl rfl (bd_BadText) (by decide +kernel),
    e_BadText := FxH.excB_ok (c.fact 21),
    g_BadWord := He.glo_ok X G (c.fact 22),
    x_BadWord := FxH.InD.xc (P := PySem.Challenge.pw_fablemill_k07_codes_and_texts) (d := d_BadWord) (c.ini 2).1 (c.ini 2).2 (FOk.mk' (by decide +kernel) (by decide +kernel) (by decide +kernel) (by decide +kernel)) rfl rfl rfl rfl (bd_BadWord) (by decide +kernel),
    e_BadWord := FxH.excB_ok (c.fact 23),
    g_FableError := He.glo_ok X G (c.fact 24),
    g_TooMany := He.glo_ok X G (c.fact 25),
    x_TooMany := FxH.InD.xc (P := PySem.Challenge.pw_fablemill_k07_codes_and_texts) (d := d_TooMany) (c.ini 3).1 (c.ini 3).2 (FOk.mk' (by decide +kernel) (by decide +kernel) (by decide +kernel) (by decide +kernel)) rfl rfl rfl rfl (bd_TooMany) (by decide +kernel),
    e_TooMany := FxH.excB_ok (c.fact 26),
    k_BadText := of_decide_eq_true (c.fact 27),
    k_VE := of_decide_eq_true (c.fact 28),
    k_BadLot := of_decide_eq_true (c.fact 29),
    k_BadWord := of_decide_eq_true (c.fact 30),
    k_TooMany := of_decide_eq_true (c.fact 31),
    m_FableError := of_decide_eq_true (c.fact 32) }
  obtain ⟨fd0, F0⟩ := c.def_ 0 (d := d_f_check_text) rfl
  have S_check_text : Src K mg "check_text" s_check_text := ⟨_, fd0, He.glo_ok X G (c.fact 33), F0⟩
  obtain ⟨fd1, F1⟩ := c.def_ 1 (d := d_f_codes) rfl
  have S_codes : Src K mg "codes" s_codes := ⟨_, fd1, He.glo_ok X G (c.fact 34), F1⟩
  obtain ⟨fd2, F2⟩ := c.def_ 2 (d := d_f__law_bag) rfl
  have S__law_bag : Src K mg "_law_bag" s__law_bag := ⟨_, fd2, He.glo_ok X G (c.fact 35), F2⟩
  obtain ⟨fd3, F3⟩ := c.def_ 3 (d := d_f__law_pick) rfl
  have S__law_pick : Src K mg "_law_pick" s__law_pick := ⟨_, fd3, He.glo_ok X G (c.fact 36), F3⟩
  obtain ⟨fd4, F4⟩ := c.def_ 4 (d := d_f__law_choice) rfl
  have S__law_choice : Src K mg "_law_choice" s__law_choice := ⟨_, fd4, He.glo_ok X G (c.fact 37), F4⟩
  obtain ⟨fd5, F5⟩ := c.def_ 5 (d := d_f__law_integer) rfl
  have S__law_integer : Src K mg "_law_integer" s__law_integer := ⟨_, fd5, He.glo_ok X G (c.fact 38), F5⟩
  obtain ⟨fd6, F6⟩ := c.def_ 6 (d := d_f__law_signs) rfl
  have S__law_signs : Src K mg "_law_signs" s__law_signs := ⟨_, fd6, He.glo_ok X G (c.fact 39), F6⟩
  obtain ⟨fd7, F7⟩ := c.def_ 7 (d := d_f__law_codes) rfl
  have S__law_codes : Src K mg "_law_codes" s__law_codes := ⟨_, fd7, He.glo_ok X G (c.fact 40), F7⟩
  obtain ⟨fd8, F8⟩ := c.def_ 8 (d := d_f__law_sign) rfl
  have S__law_sign : Src K mg "_law_sign" s__law_sign := ⟨_, fd8, He.glo_ok X G (c.fact 41), F8⟩
  obtain ⟨fd9, F9⟩ := c.def_ 9 (d := d_f__law_numbers) rfl
  have S__law_numbers : Src K mg "_law_numbers" s__law_numbers := ⟨_, fd9, He.glo_ok X G (c.fact 42), F9⟩
  obtain ⟨fd10, F10⟩ := c.def_ 10 (d := d_f__law_long_text) rfl
  have S__law_long_text : Src K mg "_law_long_text" s__law_long_text := ⟨_, fd10, He.glo_ok X G (c.fact 43), F10⟩
  obtain ⟨fd11, F11⟩ := c.def_ 11 (d := d_f__law_check) rfl
  have S__law_check : Src K mg "_law_check" s__law_check := ⟨_, fd11, He.glo_ok X G (c.fact 44), F11⟩
  obtain ⟨fd12, F12⟩ := c.def_ 12 (d := d_f__law_refused) rfl
  have S__law_refused : Src K mg "_law_refused" s__law_refused := ⟨_, fd12, He.glo_ok X G (c.fact 45), F12⟩
  obtain ⟨fd13, F13⟩ := c.def_ 13 (d := d_f__law_judged) rfl
  have S__law_judged : Src K mg "_law_judged" s__law_judged := ⟨_, fd13, He.glo_ok X G (c.fact 46), F13⟩
  obtain ⟨fd, F⟩ := c.def_ 14 (d := d_f_law) rfl
  have e := hfa.symm.trans (He.glo_ok X G (c.fact 47 (f := (He.Fa.glo "law").ok) rfl))
  cases e
  have b := FunD.bindsA (ps := ["_law_script"]) F fun _ _ _ _ _ _ us hl => match us, hl with | [_], _ => rfl
  refine ⟨fd, fun s v => b s [v] rfl, fun base hK hG => ?_⟩
  have C_check_text : Cal PySem.Challenge.pw_fablemill_k07_codes_and_texts w K mg base (L2.CX PySem.Challenge.pw_fablemill_k07_codes_and_texts w) 3 "check_text" ["text"] (spCT K) := ok_check_text S_check_text T 
  have C_codes : Cal PySem.Challenge.pw_fablemill_k07_codes_and_texts w K mg base CX0 1 "codes" ["sign"] spCodes := ok_codes S_codes T 
  have C__law_bag : Cal PySem.Challenge.pw_fablemill_k07_codes_and_texts w K mg base CX0 1 "_law_bag" ["_law_script"] (spBag K) := ok__law_bag S__law_bag T 
  have C__law_pick : Cal PySem.Challenge.pw_fablemill_k07_codes_and_texts w K mg base CX0 1 "_law_pick" ["_law_bag_here", "_law_many"] spPick := ok__law_pick S__law_pick T 
  have C__law_choice : Cal PySem.Challenge.pw_fablemill_k07_codes_and_texts w K mg base CX0 2 "_law_choice" ["_law_bag_here", "_law_things"] spChoiceS := ok__law_choice S__law_choice T C__law_pick
  have C__law_integer : Cal PySem.Challenge.pw_fablemill_k07_codes_and_texts w K mg base CX0 1 "_law_integer" ["_law_thing"] spInteger := ok__law_integer S__law_integer T 
  have C__law_signs : Cal PySem.Challenge.pw_fablemill_k07_codes_and_texts w K mg base CX0 1 "_law_signs" [] spSigns := ok__law_signs S__law_signs T 
  have C__law_codes : Cal PySem.Challenge.pw_fablemill_k07_codes_and_texts w K mg base CX0 1 "_law_codes" ["_law_sign_here"] spLCodes := ok__law_codes S__law_codes T 
  have C__law_sign : Cal PySem.Challenge.pw_fablemill_k07_codes_and_texts w K mg base CX0 3 "_law_sign" ["_law_bag_here"] spSign := ok__law_sign S__law_sign T C__law_signs C__law_choice
  have C__law_numbers : Cal PySem.Challenge.pw_fablemill_k07_codes_and_texts w K mg base CX0 2 "_law_numbers" ["_law_actual", "_law_due"] spNumbers := ok__law_numbers S__law_numbers T C__law_integer
  have C__law_long_text : Cal PySem.Challenge.pw_fablemill_k07_codes_and_texts w K mg base CX0 4 "_law_long_text" ["_law_bag_here"] spLong := ok__law_long_text S__law_long_text T C__law_pick C__law_sign
  have C__law_check : Cal PySem.Challenge.pw_fablemill_k07_codes_and_texts w K mg base CX0 4 "_law_check" ["_law_thing"] spCheck := ok__law_check S__law_check T C_check_text
  have C__law_refused : Cal PySem.Challenge.pw_fablemill_k07_codes_and_texts w K mg base CX0 5 "_law_refused" ["_law_thing", "_law_place"] spRefused := ok__law_refused S__law_refused T C__law_check C__law_integer
  have C__law_judged : Cal PySem.Challenge.pw_fablemill_k07_codes_and_texts w K mg base CX0 6 "_law_judged" ["_law_text"] spJudged := ok__law_judged S__law_judged T C__law_refused C__law_check
  exact ok_law F T C__law_bag C__law_pick C__law_sign C_codes C__law_codes C__law_numbers C__law_long_text C__law_judged C__law_refused
end K07
open PySem PySem.W PySem.Calls PyProof.Rows
theorem PySem.Challenge.cw_fablemill_k07_codes_and_texts_holds : PySem.Challenge.rw_fablemill_k07_codes_and_texts.Holds := by
  w_on; o_law
  refine HandSHeadRun.head_any (r := OpenLaw.row PySem.Challenge.rw_fablemill_k07_codes_and_texts) (q := view (OpenLaw.row PySem.Challenge.rw_fablemill_k07_codes_and_texts).prog [27]) (H := K07.hk) (ob := K07.ob) (M := 4000) (loose := K07.loose) (d := HandSHeadRun.topDef (OpenLaw.row PySem.Challenge.rw_fablemill_k07_codes_and_texts).prog 27) (kwd := []) K07.ob_eq
    (by kernel_rfl) (fun s => by kernel_rfl) K07.run (by kernel_rfl) (by kernel_rfl) (by kernel_rfl) (by rfl) (by first | assumption | decide +kernel) (by decide +kernel) ⟨rfl, rfl, rfl, rfl, rfl, by decide +kernel⟩ ?hw ?hc
  case hw => w_witness2
  case hc =>
    refine L2.walk_ofE (l := PySem.Challenge.rw_fablemill_k07_codes_and_texts) (n := 63) (k := 7) (x := "_law_script") (CX := L2.CX0) rfl (by decide) (by kernel_rfl) ⟨rfl, by decide, by decide⟩ ?F (fun _ _ _ _ z => z)
    intro w mg fa h Y G hmg0
    obtain ⟨K, KX, c⟩ := Y
    have hmg : mg ("law" : PySem.Str) = some (.ref fa) := by
      have e : (HandSHeadRun.topDef (OpenLaw.row PySem.Challenge.rw_fablemill_k07_codes_and_texts).prog 27).name = ("law" : PySem.Str) := by kernel_rfl
      rw [← e]
      exact hmg0
    obtain ⟨fd, hb, hF⟩ := K07.facts (w := w) KX G hmg c
    exact ⟨K, fd, (K07.spLaw K), KX, hb, fun H a ns hl _ hS => ⟨a, ns, rfl, hS, Nat.le_trans hl (by decide), fun _ => rfl⟩, hF⟩
