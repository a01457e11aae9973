import PyProof.Rows.All
import Wide.All
import OpenK.AllK
import Wide.FinOn
import KE.KStateDown
import KE.KExcSuper
import Lean
import HandS.ForMost
import HandS.ForExc
import HandS.ExcInit
import HandS.ExcSuper
import HandS.ExcField
import HandS.ExcIs
import HandS.IsInst
import HandS.Defaults
import HandS.Replace
import HandS.ReplaceLit
import HandS.ReplaceDef
import HandS.Head0
import HandS.Head1
import HandS.Head2
import HandS.HeadEnd
import HandS.HeadHook1
import HandS.HeadHook2
import HandS.Wide
import HandS.WideBits
import HandS.ReplaceList
import HandS.IterVal
import KE.SortData
import KE.DataCmp
import HandS.Walk
import KE.GoesMore
import HandS.More
import HandS.TupAny
import HandS.Ends
import PyProof.ReprRoads
import PyProof.CallFns
import HandS.TupLe
import HandS.StrMore
import PyProof.Rows.StrPadFill
import PyProof.Rows.StrPadWhole
import KE.KIsAll
import HandS.OwnEq
import HandS.HotCalls
import HandS.Codes
import KE.KOwnIter
import PyProof.InstEq
import HandS.OwnIter
import PyProof.Rows.SortShellAny
import HandS.Strs
import HandS.Conv
import HandS.Style
import HandS.Set
import HandS.SetBool
import HandS.SetKeys
import KE.KCallOwn
import HandS.Steps
import HandS.SetFor
import HandS.Text
import PyProof.EqKinds
import PySem.Challenge.RW_fablemill_k13_whole_best_lot
set_option Elab.async false
set_option linter.all false
set_option maxRecDepth 100000
set_option maxHeartbeats 4000000
/-! Own errors of the shape: class C(FableError): def __init__(self, f): super().__init__('..'); self.f = f -/
namespace Fx
open PySem PySem.W PySem.Calls PyProof.Rows PySem.HandSPX
/-- the text of such an __init__ -/
def xA (f : Str) (p1 p2 : Pos) : Arguments := { posonlyargs := [], args := [{ arg := "self", annotation := none, pos := p1 }, { arg := f, annotation := none, pos := p2 }], vararg := none, kwonlyargs := [], kw_defaults := [], kwarg := none, defaults := [] }
def xB (f m : Str) (q1 q2 q3 q4 q5 q6 q7 q8 q9 q10 : Pos) : List Stmt :=
  [.Expr (.Call (.Attribute (.Call (.Name "super" q1) [] [] q2) "__init__" q3) [.Constant (.str m) 0 q4] [] q5) q6,
   .Assign [.Attribute (.Name "self" q7) f q8] (.Name f q9) q10]
def xS (f : Str) : Scope := { kind := .function, names := [(PySem.Str.ofString "self", .local), (f, .local), (PySem.Str.ofString "__class__", .free), (PySem.Str.ofString "super", .globalImplicit)], isGenerator := false, isCoroutine := false, more := [] }
/-- a field's name that does not clash -/
structure FOk (f : Str) : Prop where
  ns : f ≠ "self"
  nc : f ≠ "__class__"
  nu : f ≠ "super"
  nd : (f == ("__debug__" : Str)) = false
theorem FOk.mk' {f : Str} (h1 : decide (f ≠ "self") = true) (h2 : decide (f ≠ "__class__") = true) (h3 : decide (f ≠ "super") = true) (h4 : (f == ("__debug__" : Str)) = false) : FOk f :=
  ⟨of_decide_eq_true h1, of_decide_eq_true h2, of_decide_eq_true h3, h4⟩
/-- what the written part says of the class at C, its name x, its field f -/
structure XC (K : Frag) (P : Program) (x f : Str) (C : Addr) : Prop where
  fo : FOk f
  cls : ∃ nm q N bs bm sn sub ab col dd k0 k1 k2 k3 k5, K.lookup C = some (excClassObj nm q C N bs bm true sn sub ab col dd k0 k1 k2 k3 k5 "ValueError.__new__") ∧ refsVE bm = true ∧ alongIn K "__init__" bm = some (some (.builtin "ValueError.__init__"))
  sa : findIn K (.ref C) "__setattr__" = some (some (.builtin "object.__setattr__"))
  ga : findIn K (.ref C) "__getattribute__" = some (some (.builtin "BaseException.__getattribute__"))
  gg : findIn K (.ref C) "__getattr__" = some none
  noF : findIn K (.ref C) f = some none
  kC : keepIn K (.ref C) = true
  exC : subIn K (.ref C) (.type "BaseException") = some true
  veC : subIn K (.ref C) (.type "ValueError") = some true
  tyC : typeIn K (.ref C) = some (.type "type")
  hdC : hasDictIn K C = true
  op : nsIn K cStatics "thirdparty.any" = some none
  init : ∃ (fI : Addr), findIn K (.ref C) "__init__" = some (some (.ref fI)) ∧ typeIn K (.ref fI) = some (.type "function") ∧
    ∃ (qual m : Str) (oc : Value) (od : Option Addr) (kV doc pm : Value) (an : Option Addr) (cda cc : Addr) (ct : Value) (osl : Array (Option Value)) (p1 p2 q1 q2 q3 q4 q5 q6 q7 q8 q9 q10 : Pos)
      (ccl : Value) (cdd : Option Addr) (vs : Array Value) (ccs : Array (Option Value)) (tf : Tok) (cl : Value) (cld : Option Addr) (csl : Array (Option Value)),
      K.lookup fI = some ⟨oc, od, .func (ksFn "__init__" qual (xA f p1 p2) (xB f m q1 q2 q3 q4 q5 q6 q7 q8 q9 q10) (xS f) .none kV doc pm an (.ref cda) ct cc), osl⟩ ∧ codeIn K (.ref cda) qual = true ∧
      K.lookup cda = some ⟨ccl, cdd, .fields vs, ccs⟩ ∧ vs[2]? = some (.str (P.main.file : Str) tf) ∧ K.lookup cc = some ⟨cl, cld, .cell (some (.ref C)), csl⟩ ∧ (q3.endLine == q5.line) = true
  bd : ∀ (fd : FuncData) (p1 p2 : Pos), fd.params = xA f p1 p2 → fd.defaults = .none → ∀ (u1 u2 : Value), bindArgs fd ⟨[u1, u2], []⟩ = pure [(("self" : Str), u1), (f, u2)]
  top : (P.main.scope.names.lookup ("super" : Str)).isSome = false
section
variable {f : Str} (F : FOk f)
include F
theorem look_self : (xS f).names.lookup ("self" : Str) = some .local := by simp [xS, List.lookup]
theorem look_f : (xS f).names.lookup f = some .local := by
  have h1 : (f == PySem.Str.ofString "self") = false := by simpa using F.ns
  simp [xS, List.lookup, h1]
theorem look_cls : (xS f).names.lookup ("__class__" : Str) = some .free := by
  have h1 : (("__class__" : Str) == f) = false := by simpa using (Ne.symm F.nc)
  have h2 : (("__class__" : Str) == PySem.Str.ofString "self") = false := by decide
  simp [xS, List.lookup, h1, h2]
theorem look_sup : (xS f).names.lookup ("super" : Str) = some .globalImplicit := by
  have h1 : (("super" : Str) == f) = false := by simpa using (Ne.symm F.nu)
  have h2 : (("super" : Str) == PySem.Str.ofString "self") = false := by decide
  have h3 : (("super" : Str) == PySem.Str.ofString "__class__") = false := by decide
  simp [xS, List.lookup, h1, h2, h3]
end
section
variable {prog : Program} {w : World} {A : Around} {E : Value → Shared → Prop} {h : Heap} {g : Array GenState} {d : Drawn} {t : Nat} {os : OsState}
variable {nm q : Str} {C N : Addr} {bs bm : List Value} {hdct : Bool} {sn : List Str} {sub : List Value} {ab : Bool} {col : Option Bool} {dd : Option Addr} {k0 k1 k2 k3 k5 : Option Value}
theorem boot_super : bootBuiltins ("super" : Str) = some (.type "super") := by first | boot_by_name | kernel_rfl
/-- super().__init__(..) called -/
theorem call_mw {u e t0 : Addr} {rest : List Value} {Q : Value → Shared → Prop}
    (hC : h.get? C = some (excClassObj nm q C N bs bm hdct sn sub ab col dd k0 k1 k2 k3 k5 "ValueError.__new__")) (he : h.get? e = some (excO C t0)) (hu : h.get? u = some (kxs_mw "ValueError.__init__" e)) (hrest : rest.length ≤ sizeLine)
    (hq : ∀ h' t1, (∀ b o, b ≠ e → h.get? b = some o → h'.get? b = some o) → h'.get? e = some (excO C t1) → Q .none ⟨h', g, d, t, os⟩) :
    wpAny (model prog w) A (call (.ref u) rest) Q E ⟨h, g, d, t, os⟩ := by
  refine wpAny_call (codeAny_of_tree ?_)
  show wpAny _ A.in1 (callAny (.ref u) ⟨rest, []⟩) _ _ _
  simp only [callAny]
  refine wpAny_bind (wpAny_load hu ?_)
  simp only [kxs_mw, show (Value.type "method-wrapper" == Value.type "method" || Value.type "method-wrapper" == Value.type "builtin_function_or_method" || Value.type "method-wrapper" == Value.type "method-wrapper") = true by decide, if_true]
  refine KFB.if_so (by decide) ?_
  refine wpAny_bind (ESX.check_bound F.excBase_ValueError hC he rfl ?_)
  refine wpAny_bind (wpAny_pure (wpAny_pure ?_))
  refine ⟨Code.quiet_builtin _ (by decide +kernel), codeAny_builtin F.excBase_ValueError.initEntry ?_⟩
  rw [Around.under_plainId F.excBase_ValueError.init.plain _]
  wp_walk
  refine hq _ h.objs.size (fun b o hb ho => ?_) ?_
  · rw [Heap.get?_update_other _ _ (Ne.symm hb)]
    exact Heap.get?_push_of_some _ ho
  · rw [Heap.get?_update_self _ (Heap.get?_push_of_some _ he) rfl]
    rfl
end
theorem he_sup {env : Env} {m : Str} {q1 q2 q3 q4 q5 : Pos} (hp : (q3.endLine == q5.line) = true) :
    eval (.Call (.Attribute (.Call (.Name "super" q1) [] [] q2) "__init__" q3) [.Constant (.str m) 0 q4] [] q5) env = (do
      let ov ← attributeBase (.Call (.Name "super" q1) [] [] q2) "__init__" env (eval (.Call (.Name "super" q1) [] [] q2) env)
      standAt q3.atName
      let (f, first) ← holding [ov] (getMethod ov "__init__" (do return (← importBound (.Call (.Name "super" q1) [] [] q2) env).getD true))
      callWith q5 f first (backTo q5 (starEach [.Constant (.str m) 0 q4] env)) []) := by
  rw [arm_eval_Call]
  unfold methodCall methodCallPos
  simp only [hp, Bool.or_true, if_true]
  rfl
/-- what __init__ leaves of a fresh exception at x -/
structure InitEnd (h h' : Heap) (x C dx t1 : Addr) (f : Str) (v : Value) : Prop where
  keep : ∀ b o, b ≠ x → h.get? b = some o → h'.get? b = some o
  obj : h'.get? x = some { cls := .ref C, dict := some dx, data := .fields #[.ref t1, .none, .none, .none, .bool false, .none] }
  dbig : h.objs.size ≤ dx
  dne : dx ≠ x
  ns : h'.Ns1 dx (fun y => if y = f then some v else none)
/-- a made exception -/
structure OwnMade (h h' : Heap) (e C d : Addr) (f : Str) (v : Value) : Prop where
  keep : ∀ b o, h.get? b = some o → h'.get? b = some o
  new : h.objs.size ≤ e
  obj : ∃ oe vs, h'.get? e = some oe ∧ oe.cls = .ref C ∧ oe.dict = some d ∧ oe.data = .fields vs ∧ vs[1]? = some .none
  dbig : h.objs.size ≤ d
  dne : d ≠ e
  ns : h'.Ns1 d (fun y => if y = f then some v else none)
section
variable {prog : Program} {w : World} {A : Around} {E : Value → Shared → Prop} {R : Result → Shared → Prop} {s : Shared} {K : Frag} {mg mb : Str → Option Value} {x0 f : Str} {C : Addr}
theorem one_size (v : Value) : [v].length ≤ sizeLine := by
  rw [sizeLine_eq]
  exact (by decide : 1 ≤ 16777216)
theorem fx_init (T : XC K prog x0 f C) {fI : Addr} (hfI : findIn K (.ref C) "__init__" = some (some (.ref fI))) {x t0 : Addr} {v : Value} (X : K.In s.heap) (G : s.heap.Ns mainGlobals mg) (hsu : mg "super" = none) (B : s.heap.Ns builtinsNs mb) (hsb : mb "super" = bootBuiltins "super")
    (hlim : s.heap.NoLimit) (hx : s.heap.get? x = some (excO C t0)) (hnx : K.lookup x = none) (hroom : A.depth < recursionLimit)
    (hq : ∀ h' tk dx t1, InitEnd s.heap h' x C dx t1 f v → R (.ok (.ret .none)) { s with heap := h', toks := tk }) :
    codeAny (model prog w) A (.call (.ref fI) ⟨[.ref x, v], []⟩) R s := by
  obtain ⟨fI', e1, htI, qual, m, oc, od, kV, doc, pm, an, cda, cc, ct, osl, p1, p2, q1, q2, q3, q4, q5, q6, q7, q8, q9, q10, ccl, cdd, vs, ccs, tf, cl, cld, csl, ho, hcd, hcode, hvs, hcell, hps⟩ := T.init
  rw [hfI] at e1
  cases e1
  obtain ⟨nm, q, N, bs, bm, sn, sub, ab, col, dd, k0, k1, k2, k3, k5, hC, hbm, hal⟩ := T.cls
  have hcl : clsIn K C = some { name := nm, bases := bs, mro := .ref C :: bm, ns := N, qualname := q, hasDict := true, slotNames := sn, subclasses := sub, abstract := ab, collection := col, hasDel := false } := by unfold clsIn; rw [hC] <;> rfl
  refine ks_codeAny_call_defAt (fd := ksFn "__init__" qual (xA f p1 p2) (xB f m q1 q2 q3 q4 q5 q6 q7 q8 q9 q10) (xS f) .none kV doc pm an (.ref cda) ct cc) (body := xB f m q1 q2 q3 q4 q5 q6 q7 q8 q9 q10) (binds := [("self", .ref x), (f, v)]) hroom (X _ _ ho) rfl hlim (codeRec_of X hcd) rfl
    (BindsTo.of_eq (T.bd _ p1 p2 rfl rfl _ _)) ?_ ?_ (fun h₁ hns k => ?_)
  · intro y hy
    simp only [xS, List.mem_cons, List.not_mem_nil, or_false] at hy
    rcases hy with rfl | rfl | rfl | rfl <;> simp
  · intro y hy
    simp only [List.mem_cons, List.not_mem_nil, or_false] at hy
    rcases hy with rfl | rfl
    · exact look_self T.fo
    · exact look_f T.fo
  · have X1 : K.In h₁ := X.keeps k
    have hx1 := k _ _ hx
    have hC1 := X1 _ _ hC
    refine ks_wpAt_execs_cons (ks_wpAt_Expr_any (ks_wpAt_MethodCall ?_ (he_sup hps)))
    refine ks_wpAt_super_base (look_sup T.fo) (look_cls T.fo) (by decide) rfl (X1 _ _ ho) rfl rfl rfl (X1 _ _ hcode) rfl hvs (by simp) T.top ?_
    refine ks_loadName_global rfl (look_sup T.fo) (loadGlobal_builtin (G.keeps k) hsu (B.keeps k) (hsb.trans boot_super) ⟨rfl, ?_⟩)
    refine wpAny_loadName_free rfl (look_cls T.fo) rfl ⟨_, X1 _ _ hcell, rfl⟩ ?_
    refine wpAny_loadName_local rfl (look_self T.fo) hns (v := .ref x) ?_ ?_
    · have h1 : (("self" : Str) == f) = false := by simpa using (Ne.symm T.fo.ns)
      simp [List.lookup, h1]
    refine ks_wpAny_isType_cls hC1 rfl ⟨rfl, ?_⟩
    have hsub : mroIn K C (.ref C) = some true := by
      unfold mroIn
      rw [hcl]
      simp
    refine ks_wpAny_call_super hC1 rfl hx1 rfl (fun c e => by cases e) (looks_mroIn X1 hsub) (fun h2 hso k2 => ?_)
    have X2 : K.In h2 := X1.keeps k2
    have hx2 := k2 _ _ hx1
    have hxC : x ≠ C := fun e => by
      rw [e, hC1] at hx1
      cases hx1
    have I2 : InstAt h2 x (excO C t0) C none := ⟨hx2, rfl, rfl, trivial⟩
    refine kxs_getMethod kxs_ValueError hso (looks_opaque X2 T.op) (l₀ := .ref C :: bm) ?_ (ESX.drop_own C bm) X2 hal (I2.type.andThen (looks_subIn X2 T.veC)) hxC (by decide) ?_
    · exact fun A Q E s k q => wpAny_bind ((looks_clsIn X2 hcl) A _ E s k (wpAny_pure q))
    have kp : ∀ b o, h2.get? b = some o → (h2.push (kxs_mw "ValueError.__init__" x)).get? b = some o := fun b o e => Heap.get?_push_of_some _ e
    have hu : (h2.push (kxs_mw "ValueError.__init__" x)).get? h2.objs.size = some (kxs_mw "ValueError.__init__" x) := Heap.get?_push_at rfl rfl
    refine kxs_callWith (i := "ValueError.__init__") (x := x) rfl (evalArgs_plain (spliced_cons (Constant_str (k := 0) (pos := q4) (spliced_nil ⟨hu, ?_⟩))))
    refine call_mw (kp _ _ (X2 _ _ hC)) (kp _ _ hx2) hu (one_size _) (fun h3 t1 k3 hx3 => ?_)
    have kk : ∀ b o, b ≠ x → h₁.get? b = some o → h3.get? b = some o := fun b o hb e => k3 b o hb (kp _ _ (k2 _ _ e))
    have X3 : K.In h3 := fun a o e => kk a o (fun z => by rw [z, hnx] at e; cases e) (X1 a o e)
    have nL : s.heap.objs.size ≠ x := Nat.ne_of_gt (Heap.lt_size hx)
    have hns3 : h3.Ns s.heap.objs.size (fun y => [(("self" : Str), Value.ref x), (f, v)].reverse.lookup y) := by
      obtain ⟨oL, es, ep, hL, r⟩ := hns
      exact ⟨oL, es, ep, kk _ _ nL hL, r⟩
    have hfs : (f == ("self" : Str)) = false := by simpa using T.fo.ns
    have hsf : (("self" : Str) == f) = false := by simpa using (Ne.symm T.fo.ns)
    show PySem.wpAt _ _ _ (execs _ _) _ _ _
    refine ks_wpAt_execs_cons (ks_wpAt_Assign_Attr (PySem.wpAt_of_wpAny ?_))
    refine wpAny_Name (wpAny_loadName_local rfl (look_f T.fo) hns3 (v := v) (by simp [List.lookup]) ?_) T.fo.nd
    refine wpAny_Name (wpAny_loadName_local rfl (look_self T.fo) hns3 (v := .ref x) (by simp [List.lookup, hsf]) ?_) (by decide)
    refine set_plain X3 (ox := excO C t1) (od := none) ⟨hx3, rfl, rfl, trivial⟩ T.sa ?_
    refine exc_osa X3 hx3 hcl (show refsVE (.ref C :: bm) = true from hbm) rfl T.noF (fun h4 tk4 dx k4 dn dne hx4 hn4 => ?_)
    show PySem.wpAt _ _ _ (execs _ _) _ _ _
    refine PySem.wpAt_of_wpAny (wpAny_execs_nil (hq h4 tk4 dx t1 ⟨fun b o hb e => k4 b o hb (kk b o hb (k b o e)), hx4, ?_, dne, hn4⟩))
    exact Nat.le_of_lt (Nat.lt_of_lt_of_le (show s.heap.objs.size < h3.objs.size from hns3.lt) dn)
theorem fx_made (T : XC K prog x0 f C) {v : Value} (X : K.In s.heap) (G : s.heap.Ns mainGlobals mg) (hsu : mg "super" = none) (B : s.heap.Ns builtinsNs mb) (hsb : mb "super" = bootBuiltins "super") (hlim : s.heap.NoLimit) (hroom : A.depth + 1 < recursionLimit)
    (hq : ∀ h' tk e d, OwnMade s.heap h' e C d f v → R (.ok (.ret (.ref e))) { s with heap := h', toks := tk }) :
    codeAny (model prog w) A (.call (.ref C) ⟨[v], []⟩) R s := by
  obtain ⟨fI, hfI, htI, _⟩ := T.init
  obtain ⟨nm, q, N, bs, bm, sn, sub, ab, col, dd, k0, k1, k2, k3, k5, hC, hbm, hal⟩ := T.cls
  obtain ⟨hp, g, dr, tk, os⟩ := s
  have k : ∀ b o, hp.get? b = some o → ((hp.push (kdv_tup [v])).push (excO C hp.objs.size)).get? b = some o := fun b o e => Heap.get?_push_of_some _ (Heap.get?_push_of_some _ e)
  have hget : ((hp.push (kdv_tup [v])).push (excO C hp.objs.size)).get? (hp.objs.size + 1) = some (excO C hp.objs.size) := by heap_get
  have hnx : K.lookup (hp.objs.size + 1) = none := by
    cases e : K.lookup (hp.objs.size + 1) with
    | none => rfl
    | some o =>
      have z : hp.get? (hp.objs.size + 1) = some o := X _ _ e
      exact absurd (Nat.lt_of_succ_lt (Heap.lt_size z)) (Nat.lt_irrefl _)
  refine call_own F.excBase_ValueError (fun X => refsVE_contains X bm hbm) (X _ _ hC) (looks_findIn X hfI) (fun self => bind_fn X self htI) (one_size v) ?_
  refine fx_init (s := ⟨(hp.push (kdv_tup [v])).push (excO C hp.objs.size), g, dr, tk, os⟩) T hfI (X.keeps k) (G.keeps k) hsu (B.keeps k) hsb (hlim.keeps k) hget hnx ?_ fun h' tk' dx t1 ⟨k', hx, dn, dne, hns⟩ => ?_
  · show A.depth + 1 < recursionLimit
    exact hroom
  · have old : ∀ b o, hp.get? b = some o → h'.get? b = some o := fun b o e => k' b o (Nat.ne_of_lt (Nat.lt_succ_of_lt (Heap.lt_size e))) (k b o e)
    have z : hp.objs.size + 1 + 1 ≤ dx := by
      first
        | (simpa only [Heap.size_push] using dn)
        | exact dn
        | (have q := dn; rw [Heap.size_push, Heap.size_push] at q; exact q)
    exact ⟨rfl, hq h' tk' (hp.objs.size + 1) dx ⟨old, Nat.le_succ _, ⟨_, _, hx, rfl, rfl, rfl, rfl⟩, Nat.le_trans (Nat.le_trans (Nat.le_succ _) (Nat.le_succ _)) z, dne, hns⟩⟩
end
end Fx
namespace Fx
open PySem PySem.Spec PyProof.Rows L2
theorem relO_fx {f : Str} {v : V} {v' : Value} (r : RelV v v') (y : Str) : RelO (List.lookup y [(f, v)]) (if y = f then some v' else none) := by
  by_cases hw : y = f
  · subst hw
    rw [if_pos rfl]
    have q : List.lookup y [(y, v)] = some v := by simp [List.lookup]
    rw [q]
    exact r
  · rw [if_neg hw]
    have qw : (y == f) = false := by simpa using hw
    have q2 : List.lookup y [(f, v)] = none := by simp [List.lookup, qw]
    rw [q2]
    trivial
section
variable {X : Cx} {C : Addr} {x0 f : Str}
/-- C(e) -/
def tMkFx (C : Addr) (f : Str) (ta : TA) : L2.St → Hp → XK → Prop := fun σ H Q => ta σ H fun vs H1 => ∃ v, vs = [v] ∧ ∀ d, H1 d = none → Q (.ref C) (some d) (upd H1 d (.xd [(f, v)]))
theorem pmk_fx {a : Expr} {ta : TA} {p pos : Pos} {k : Nat} (T : XC X.K X.prog x0 f C) (gC : X.mg x0 = some (.ref C)) (hsu : X.mg "super" = none) (hr : Room k X.A) (ha : PA X [a] ta) (hg : Gl X x0 := by rfl) (hdb : (x0 == ("__debug__" : Str)) = false := by decide)
    (he : starEach (a :: []) X.env = (false, eval a X.env) :: starEach [] X.env := by rfl) (hpl : (backTo pos (starEach [] X.env)).any (·.1) = false := by rfl) :
    PMk X (.Call (.Name x0 p) [a] [] pos) (tMkFx C f ta) := by
  intro pins s σ H Q I h
  refine wpAny_Call_Name_kw (ld_glob I hg gC ?_ hdb)
  refine PySem.W.callWith_K (h₀ := X.base) I.ok.mod.kin T.kC (thn (ha.run pos pins s σ H _ I h) fun us s1 hh => ?_) he hpl
  obtain ⟨vs, H1, I1, r1, v, ev, q1⟩ := hh
  subst ev
  refine ⟨I1.kIn, ?_⟩
  cases r1 with
  | cons rv rn =>
    rename_i v' us'
    cases rn
    show wpAny _ _ (call (.ref C) [v']) _ _ _
    have hlim := I1.nolimit
    obtain ⟨mb, hb1, hb2⟩ := I1.mod.blt
    have G := I1.mod.glob.keeps I1.bk
    have B := hb1.keeps I1.bk
    obtain ⟨hp, g, dr, tk, os⟩ := s1
    refine wpAny_call (fx_made T I1.kIn G hsu B (hb2 _ (by decide)) hlim (by have := hr.dp; omega) fun h' tk' e d M => ?_)
    show MkP X pins σ Q (.ref e) ⟨h', g, dr, tk', os⟩
    obtain ⟨oe, fv, hoe, hc, hd, hdat, h1⟩ := M.obj
    have hns := M.ns
    obtain ⟨G', g1, g2⟩ := restrict h' fun b => decide (b ≠ e)
    have gk : ∀ b, b ≠ e → G'.get? b = h'.get? b := fun b hb => g1 b (decide_eq_true hb)
    have ge : G'.get? e = none := g2 e (by simp)
    have old : ∀ b o, hp.get? b = some o → G'.get? b = some o := fun b o q => (gk b (Nat.ne_of_lt (Nat.lt_of_lt_of_le (Heap.lt_size q) M.new))).trans (M.keep b o q)
    have ob : ObjOk X.prog X.w (upd H1 d (.xd [(f, v)])) G' d (.xd [(f, v)]) :=
      ⟨_, hns.at (fun o q => (gk d M.dne).trans q), fun y => relO_fx rv y⟩
    have J : Inv X pins σ (upd H1 d (.xd [(f, v)])) ⟨G', g, dr, tk', os⟩ := I1.laid (t' := tk') old M.dbig ob
    refine ⟨e, oe, fv, ⟨G', g, dr, tk', os⟩, _, .ref C, some d, rfl, J, fun b o q => ?_, ge, hoe, ⟨hc, hd⟩, hdat, h1, ?_, rfl, I1.bare, raises_own T.exC T.tyC, q1 d (I1.hok.fresh M.dbig)⟩
    · by_cases hb : b = e
      · have q' : G'.get? b = some o := q
        rw [hb, ge] at q'; cases q'
      · exact (gk b hb).symm.trans q
    · rw [upd_ne (Ne.symm M.dne)]
      exact I1.hok.fresh M.new
/-- raise C(e) -/
def tRaiseFx (C : Addr) (f : Str) (W : WX) (ta : TA) : TS := fun _ σ H => tMkFx C f ta σ H fun cls d H' => W cls d σ H'
theorem ps_raiseFx {a : Expr} {ta : TA} {W : WX} {p pos pos2 : Pos} {k : Nat} (hc : X.calm = true) (T : XC X.K X.prog x0 f C) (gC : X.mg x0 = some (.ref C)) (hsu : X.mg "super" = none) (hr : Room k X.A) (tk : Takes X W) (ha : PA X [a] ta) (hg : Gl X x0 := by rfl) (hdb : (x0 == ("__debug__" : Str)) = false := by decide)
    (he : starEach (a :: []) X.env = (false, eval a X.env) :: starEach [] X.env := by rfl) (hpl : (backTo pos (starEach [] X.env)).any (·.1) = false := by rfl) :
    PS X (.Raise (some (.Call (.Name x0 p) [a] [] pos)) none pos2) (tRaiseFx C f W ta) := ps_raise hc tk (pmk_fx T gC hsu hr ha hg hdb he hpl)
/-- e.f, e the exception that the suite holds -/
theorem XC.xf (T : XC X.K X.prog x0 f C) : XfC X.K C := ⟨T.ga, T.gg, T.exC, T.hdC⟩
end
end Fx
namespace PySem.W
open PySem PySem.Spec PySem.Calls PyProof.Rows
section
variable {prog : Program} {w : World} {A : Around} {E : Value → Shared → Prop} {s : Shared} {K : Frag} {x D : Addr} {ox : Obj} {od : Option Obj}
theorem fx_findObj {C : Addr} {name : Str} {a g : Value} (hc : (clsIn K C).isSome = true) (ha : findIn K (.ref C) name = some (some a)) (hg : specialIn K a "__get__" = some (some g)) (ht : takesIn K a = some true) : findObj K C od name = some (.bind g a) := by
  obtain ⟨cd, hc⟩ := Option.isSome_iff_exists.mp hc
  unfold findObj
  rw [hc, Option.bind_some, ha, Option.bind_some]
  simp [hg, ht]
theorem fx_class {Q : Option Value → Shared → Prop} (hga : findIn K (.ref D) "__getattribute__" = some (some (.builtin "BaseException.__getattribute__"))) (hgt : findIn K (.ref D) "__getattr__" = some none) (hsub : subIn K (.ref D) (.type "BaseException") = some true)
    (hdct : hasDictIn K D = true) (ha : findIn K (.ref D) "__class__" = some (some (.builtin "object.__class__")))
    (hn : specialIn K (.builtin "object.__class__") "__get__" = some (some (.builtin "getset_descriptor.__get__"))) (htk : takesIn K (.builtin "object.__class__") = some true) (hm : mroIn K D (.type "object") = some true)
    (X : K.In s.heap) (I : InstAt s.heap x ox D od) (h : Q (some (.ref D)) { s with toks := s.toks + 1 }) : wpAny (model prog w) A (getAttr? (.ref x) "__class__") Q E s := by
  have hf : findObj K D od "__class__" = some (.bind (.builtin "getset_descriptor.__get__") (.builtin "object.__class__")) := fx_findObj (by obtain ⟨cd, hc, _⟩ := any_some hdct; rw [hc]; rfl) ha hn htk
  obtain ⟨hp, g, d, t, os⟩ := s
  have L0 := I.type (M := model prog w)
  have L1 := looks_findIn (M := model prog w) X hga
  have L2 := looks_findIn (M := model prog w) X hgt
  have L3 := looks_find (M := model prog w) X I hf
  have sub : Looks (model prog w) hp (isInstance (.ref x) (.type "BaseException")) true := L0.andThen (looks_subIn X hsub)
  have hx0 : (false && onTheHeap (Value.builtin "BaseException.__getattribute__")) = false := rfl
  have hx2 : (Value.builtin "BaseException.__getattribute__" == Value.builtin "object.__getattribute__") = false := by decide +kernel
  have hx1 : (onTheHeap (Value.ref D) && Value.builtin "BaseException.__getattribute__" == Value.builtin "object.__getattribute__") = false := by rw [hx2]; rfl
  unfold getAttr? getAttrBy? getAttrBy
  refine wpAny_bind (wpAny_mkText (wpAny_bind (wpAny_attempt (wpAny_holding (wpAny_bind (L0.at (wpAny_bind (L1.at ?_))))))))
  show wpAny _ _ (if (onTheHeap (Value.ref D) && Value.builtin "BaseException.__getattribute__" == Value.builtin "object.__getattribute__") = true then _ else _) _ _ _
  rw [hx1, if_neg Bool.false_ne_true]
  unfold getAttrByItsOwn hookBefore
  refine wpAny_bind ?_
  rw [if_pos (show onTheHeap (Value.ref D) = true from rfl)]
  refine L2.at ?_
  refine wpAny_bind (wpAny_attempt (wpAny_holding ?_))
  unfold callGetattribute
  rw [hx0, if_neg Bool.false_ne_true]
  unfold boundAndCalled
  rw [PySem.F.excAttr_ValueError.ga.bind (.ref x)]
  refine wpAny_bind (wpAny_pure ?_)
  show wpAny _ _ (call (.builtin "BaseException.__getattribute__") [.ref x, .str "__class__" t]) _ _ _
  refine wpAny_call (codeAny_call_builtin PySem.F.excAttr_ValueError.ga.plain PySem.F.entry_bexc_ga ?_)
  refine @check_slot (model prog w) _ _ ⟨hp, g, d, t + 1, os⟩ "BaseException.__getattribute__" "BaseException" "__getattribute__" (.ref x) [.str "__class__" t] [] _ (by decide +kernel) (by decide +kernel) sub (PySem.F.args_bexc_ga (.ref x) (.str "__class__" t)) ?_
  unfold Builtin.«object.__getattribute__»
  refine wpAny_bind (wpAny_of_eq (a := ((Value.ref x : Value), [Value.str "__class__" t])) (by first | rfl | (simp only [slotArgs]; rfl)) ?_)
  refine wpAny_bind (wpAny_pure (wpAny_bind (L0.at (wpAny_bind (L3.at ?_)))))
  show wpAny _ _ (holding [Value.builtin "object.__class__"] (call (.builtin "getset_descriptor.__get__") [.builtin "object.__class__", .ref x, .ref D]) >>= ret) _ _ _
  refine wpAny_bind (wpAny_holding (wpAny_call (class_get (s := ⟨hp, g, d, t + 1, os⟩) (ox := ox) (od := od) X I hm ?_)))
  refine wpAny_pure ?_
  show wpAny _ _ (handedOut (.ref D)) _ _ _
  rw [handedOut_of (v := .ref D) rfl]
  first
    | exact wpAny_pure (wpAny_pure h)
    | exact wpAny_pure h
    | exact wpAny_pure (wpAny_bind (wpAny_pure (wpAny_pure h)))
theorem fx_kitx (hga : findIn K (.ref D) "__getattribute__" = some (some (.builtin "BaseException.__getattribute__"))) (hgt : findIn K (.ref D) "__getattr__" = some none) (hsub : subIn K (.ref D) (.type "BaseException") = some true) (hdct : hasDictIn K D = true) (ha : findIn K (.ref D) "__class__" = some (some (.builtin "object.__class__")))
    (hn : specialIn K (.builtin "object.__class__") "__get__" = some (some (.builtin "getset_descriptor.__get__"))) (htk : takesIn K (.builtin "object.__class__") = some true) (hm : mroIn K D (.type "object") = some true) :
    KitX K (.ref x) (.ref D) (fun h => ∃ od, InstAt h x ox D od) where
  ty := fun _ _ _ ⟨_, I⟩ => I.type
  it := fun _ _ X _ => by
    obtain ⟨cdD, hcD, _⟩ := any_some hdct
    unfold clsIn at hcD
    split at hcD
    · rename_i c' d' cd' sl' ho
      intro A' Q' E' s' k q
      unfold isType loadHead
      exact wpAny_bind (wpAny_loadPart (k _ _ (X _ _ ho)) (wpAny_pure q))
    · cases hcD
  ne := fun h tp dd its n sl X htp => by
    obtain ⟨cdD, hcD, _⟩ := any_some hdct
    refine Bool.eq_false_iff.mpr fun q => ?_
    have e : D = tp := Value.ref.inj (beq_iff_eq.mp q)
    subst e
    unfold clsIn at hcD
    split at hcD
    · rename_i c' d' cd' sl' ho
      have z := (X _ _ ho).symm.trans htp
      cases z
    · cases hcD
  ca := fun X ⟨_, I⟩ k => fx_class hga hgt hsub hdct ha hn htk hm X I k
end
end PySem.W
namespace Fx
open PySem PySem.Spec PyProof.Rows L2
/-- isinstance(e, c), e the exception that the suite holds, with its dict -/
theorem call_isX {X : Cx} {a D dd : Addr} {oe : Obj} {pn : List (Addr × Obj)} {fs : List (Str × V)} (C : ExcC X.K D) (hz : Zc (.ref D) (some dd) oe) (hf : ∃ vs, oe.data = .fields vs) :
    CallR (X.suite a ((a, oe) :: pn)) (.builtin "isinstance") (fun xs H Q => H dd = some (.xd fs) ∧ rIsE X.K D a xs H Q) := by
  intro pins s σ H xs us Q I r h
  obtain ⟨hdd, c, cv, b, rfl, hcv, e, q⟩ := h
  cases r with
  | cons rx rr =>
    cases rr with
    | cons rt rr =>
      cases rr
      cases rx
      have ec := hcv _ rt
      subst ec
      obtain ⟨hget, _⟩ := I.pin (a, oe) (List.mem_append.mpr (.inl List.mem_cons_self))
      obtain ⟨vs, hv⟩ := hf
      have hx : ObjOk X.prog X.w H s.heap dd (.xd fs) := I.hok dd _ hdd
      obtain ⟨mA, ⟨od, es, ep, ho, hrest⟩, hr⟩ := hx
      have J : PySem.W.InstAt s.heap a oe D (some od) := ⟨hget, hz.1, by unfold PySem.W.notCls; rw [hv] <;> rfl, by rw [hz.2]; exact ho⟩
      exact PySem.W.kia_one (PySem.W.fx_kitx C.hg C.hk C.hs C.hd C.ha C.hn C.ht C.hm) I.kIn ⟨_, J⟩ e (fun z => nomatch z) fun tk => ⟨.bl b, H, I.kept (t' := tk) fun _ _ z => z, rfl, q⟩
end Fx
namespace Fx
open PySem PySem.Spec PyProof.Rows L2
def clsVal : V → Option Value
  | .ref C => some (.ref C)
  | .ty n => some (.type n)
  | _ => none
/-- isinstance(e, c) in an except suite, e the exception that it holds: its class cls, its dict d -/
def rIsY (K : PySem.W.Frag) (a : Addr) (cls : Value) (d : Option Addr) : List V → Hp → VK → Prop := fun xs H Q => ∃ c, xs = [.ref a, c] ∧ ∃ D, cls = .ref D ∧ ∃ dd, d = some dd ∧ (∃ fs, H dd = some (.xd fs)) ∧ ExcC K D ∧ ∃ cv, clsVal c = some cv ∧ ∃ b, PySem.W.kitOne K (.ref D) cv = some b ∧ Q (.bl b) H
theorem call_isY {X : Cx} {a : Addr} {oe : Obj} {cls : Value} {d : Option Addr} {pn : List (Addr × Obj)} (hz : Zc cls d oe) (hf : ∃ vs, oe.data = .fields vs) :
    CallR (X.suite a ((a, oe) :: pn)) (.builtin "isinstance") (rIsY X.K a cls d) := by
  intro pins s σ H xs us Q I r h
  obtain ⟨c, e1, D, e2, dd, e3, ⟨fs, hfs⟩, C, cv, hcv, b, hb, q⟩ := h
  subst e1 e2 e3
  refine call_isX (fs := fs) C hz hf pins s σ H _ us Q I r ⟨hfs, c, cv, b, rfl, fun u ru => ?_, hb, q⟩
  cases c with
  | ref C2 => cases hcv; exact ru
  | ty n => cases hcv; exact ru
  | _ => cases hcv
theorem XC.xfc {K : PySem.W.Frag} {P : Program} {x f : Str} {C : Addr} (T : XC K P x f C) : XfC K C := ⟨T.ga, T.gg, T.exC, T.hdC⟩
end Fx
/-! The head's facts: defs, errors' classes, any further facts as tests of the written part -/
namespace FxH
open PySem PySem.Spec PyProof.Rows L2 He
def asR (g : Addr → Option Obj) : Nat → List Addr
  | 0 => [mainGlobals, cStatics]
  | n + 1 => growD g (asR g n)
abbrev Fct := PySem.W.Frag → Bool
/-- an error's class: its name, its field, its __init__ -/
structure InD where
  x : Str
  f : Str
  qual : Str
  st : Stmt
abbrev FnX : Type := Option (Str × Str × Arguments × FuncBody × Scope × Addr × List Str × Value × Addr)
def fnXo (K : PySem.W.Frag) (x : Str) : FnX := match K.lookup (ma K (ga K x) "__init__") with
  | some ⟨_, _, .func fd, _⟩ => some (fd.name, fd.qualname, fd.params, fd.body, fd.scope, fd.globals, fd.closure.map (·.1), fd.defaults, fd.builtins)
  | _ => none
def InD.val (d : InD) : FnX := some ("__init__", d.qual, defArgs d.st, .stmts (defBody d.st), defScope d.st, mainGlobals, ["__class__"], .none, builtinsNs)
def clsB (K : PySem.W.Frag) (C : Addr) : Bool := match K.lookup C with
  | some ⟨.type "type", _, .cls cd, sl⟩ => (match cd.mro, sl.toList with
    | .ref C' :: bm, [_, _, _, _, some (.builtin n), _] => C' == C && (n == "ValueError.__new__" && (!cd.hasDel && (cd.hasDict && (PySem.HandSPX.refsVE bm && decide (PySem.W.alongIn K "__init__" bm = some (some (.builtin "ValueError.__init__")))))))
    | _, _ => false)
  | _ => false
theorem clsB_ok {K : PySem.W.Frag} {C : Addr} (q : clsB K C = true) : ∃ nm q N bs bm sn sub ab col dd k0 k1 k2 k3 k5, K.lookup C = some (excClassObj nm q C N bs bm true sn sub ab col dd k0 k1 k2 k3 k5 "ValueError.__new__") ∧ PySem.HandSPX.refsVE bm = true ∧ PySem.W.alongIn K "__init__" bm = some (some (.builtin "ValueError.__init__")) := by
  unfold clsB at q
  split at q
  · rename_i dd cd sl ho
    split at q
    · rename_i C' bm k0 k1 k2 k3 n k5 hm hs
      simp only [Bool.and_eq_true, beq_iff_eq, Bool.not_eq_true', decide_eq_true_eq] at q
      obtain ⟨rfl, rfl, hdel, hdct, ht, hal⟩ := q
      obtain ⟨nm, bs, mro, ns, qn, hd, sn, sub, ab, col, del⟩ := cd
      dsimp only at hm hdel hdct
      subst hm hdel hdct
      have hsl : sl = #[k0, k1, k2, k3, some (.builtin "ValueError.__new__"), k5] := by
        obtain ⟨l⟩ := sl
        simp only at hs
        rw [hs]
      subst hsl
      exact ⟨nm, qn, ns, bs, bm, sn, sub, ab, col, dd, k0, k1, k2, k3, k5, ho, ht, hal⟩
    · cases q
  · cases q
/-- the cell and the code of the __init__ -/
def iniB (K : PySem.W.Frag) (C fI : Addr) (qual file : Str) : Bool := match K.lookup fI with
  | some ⟨_, _, .func fd, _⟩ => (match fd.closure, fd.code with
    | [(_, cc)], .ref cda => PySem.W.codeIn K (.ref cda) qual && ((match K.lookup cda with
        | some ⟨_, _, .fields vs, _⟩ => (match (vs[2]? : Option Value) with
          | some (Value.str n _) => decide (n = file)
          | _ => false)
        | _ => false) && (match K.lookup cc with
        | some ⟨_, _, .cell (some (.ref D)), _⟩ => decide (D = C)
        | _ => false))
    | _, _ => false)
  | _ => false
def InD.ok (file : Str) (K : PySem.W.Frag) (d : InD) : Bool :=
  let C := ga K d.x
  let fI := ma K C "__init__"
  eqO (PySem.W.nsIn K mainGlobals d.x) (some (some (.ref C))) && (clsB K C && (eqO (PySem.W.findIn K (.ref C) "__setattr__") (some (some (.builtin "object.__setattr__"))) &&
  (eqO (PySem.W.findIn K (.ref C) "__getattribute__") (some (some (.builtin "BaseException.__getattribute__"))) && (eqO (PySem.W.findIn K (.ref C) "__getattr__") (some none) && (eqO (PySem.W.findIn K (.ref C) d.f) (some none) &&
  (PySem.W.keepIn K (.ref C) && (decide (PySem.W.subIn K (.ref C) (.type "BaseException") = some true) && (decide (PySem.W.subIn K (.ref C) (.type "ValueError") = some true) && (decide (PySem.W.typeIn K (.ref C) = some (.type "type")) &&
  (PySem.W.hasDictIn K C && (eqO (PySem.W.nsIn K cStatics "thirdparty.any") (some none) && (eqO (PySem.W.findIn K (.ref C) "__init__") (some (some (.ref fI))) && (decide (PySem.W.typeIn K (.ref fI) = some (.type "function")) && iniB K C fI d.qual file)))))))))))))
/-- what isinstance asks of an error's class -/
def excB (K : PySem.W.Frag) (x : Str) : Bool :=
  let C := ga K x
  eqO (PySem.W.findIn K (.ref C) "__getattribute__") (some (some (.builtin "BaseException.__getattribute__"))) && (eqO (PySem.W.findIn K (.ref C) "__getattr__") (some none) && (decide (PySem.W.subIn K (.ref C) (.type "BaseException") = some true) &&
  (PySem.W.hasDictIn K C && (eqO (PySem.W.findIn K (.ref C) "__class__") (some (some (.builtin "object.__class__"))) && (eqO (PySem.W.specialIn K (.builtin "object.__class__") "__get__") (some (some (.builtin "getset_descriptor.__get__"))) &&
  (decide (PySem.W.takesIn K (.builtin "object.__class__") = some true) && decide (PySem.W.mroIn K C (.type "object") = some true)))))))
theorem excB_ok {K : PySem.W.Frag} {x : Str} (h : excB K x = true) : ExcC K (ga K x) := by
  obtain ⟨h1, h⟩ := ba h
  obtain ⟨h2, h⟩ := ba h
  obtain ⟨h3, h⟩ := ba h
  obtain ⟨h4, h⟩ := ba h
  obtain ⟨h5, h⟩ := ba h
  obtain ⟨h6, h⟩ := ba h
  obtain ⟨h7, h8⟩ := ba h
  exact ⟨eqO_ok h1, eqO_ok h2, of_decide_eq_true h3, h4, eqO_ok h5, eqO_ok h6, of_decide_eq_true h7, of_decide_eq_true h8⟩
/-- the class's facts, from the hook -/
theorem InD.xc {P : Program} {K : PySem.W.Frag} {d : InD} {m : Str} {p1 p2 q1 q2 q3 q4 q5 q6 q7 q8 q9 q10 : Pos} (e : fnXo K d.x = d.val) (c : d.ok (P.main.file : Str) K = true) (fo : Fx.FOk d.f)
    (hA : defArgs d.st = Fx.xA d.f p1 p2) (hB : defBody d.st = Fx.xB d.f m q1 q2 q3 q4 q5 q6 q7 q8 q9 q10) (hS : defScope d.st = Fx.xS d.f) (hp : (q3.endLine == q5.line) = true)
    (bd : ∀ (fd : FuncData) (p1 p2 : Pos), fd.params = Fx.xA d.f p1 p2 → fd.defaults = .none → ∀ (u1 u2 : Value), bindArgs fd ⟨[u1, u2], []⟩ = pure [(("self" : Str), u1), (d.f, u2)])
    (top : (P.main.scope.names.lookup ("super" : Str)).isSome = false) : Fx.XC K P d.x d.f (ga K d.x) := by
  obtain ⟨c0, c⟩ := ba c
  obtain ⟨c1, c⟩ := ba c
  obtain ⟨c2, c⟩ := ba c
  obtain ⟨c3, c⟩ := ba c
  obtain ⟨c4, c⟩ := ba c
  obtain ⟨c5, c⟩ := ba c
  obtain ⟨c6, c⟩ := ba c
  obtain ⟨c7, c⟩ := ba c
  obtain ⟨c8, c⟩ := ba c
  obtain ⟨c9, c⟩ := ba c
  obtain ⟨c10, c⟩ := ba c
  obtain ⟨c11, c⟩ := ba c
  obtain ⟨c12, c⟩ := ba c
  obtain ⟨c13, c14⟩ := ba c
  refine ⟨fo, clsB_ok c1, eqO_ok c2, eqO_ok c3, eqO_ok c4, eqO_ok c5, c6, of_decide_eq_true c7, of_decide_eq_true c8, of_decide_eq_true c9, c10, eqO_ok c11, ⟨_, eqO_ok c12, of_decide_eq_true c13, ?_⟩, bd, top⟩
  unfold iniB at c14
  unfold fnXo at e
  cases q : K.lookup (ma K (ga K d.x) "__init__") with
  | none =>
    rw [q] at c14
    cases c14
  | some o =>
    obtain ⟨oc, od, dt, osl⟩ := o
    rw [q] at c14 e
    cases dt with
    | func fd =>
      obtain ⟨n1, n2, n3, n4, n5, n6, n7, n8, n9, n10, n11, n12, n13, n14, n15⟩ := fd
      have e2 : (some (n1, n2, n3, n4, n5, n6, n7.map (·.1), n8, n15) : FnX) = some (("__init__" : Str), d.qual, defArgs d.st, FuncBody.stmts (defBody d.st), defScope d.st, mainGlobals, [("__class__" : Str)], Value.none, builtinsNs) := e
      simp only [Option.some.injEq, Prod.mk.injEq] at e2
      obtain ⟨h1, h2, h3, h4, h5, h6, h7, h8, h9⟩ := e2
      subst h1 h2 h3 h4 h5 h6 h8 h9
      dsimp only at c14
      cases n7 with
      | nil => cases h7
      | cons a n7 =>
        cases n7 with
        | cons b n7 =>
          have z := congrArg List.length h7
          simp at z
        | nil =>
          obtain ⟨nm, cc⟩ := a
          have h7' : nm = ("__class__" : Str) := by
            have z := List.cons.inj h7
            exact z.1
          subst h7'
          cases n13 with
          | ref cda =>
            dsimp only at c14
            obtain ⟨d1, d2⟩ := ba c14
            obtain ⟨d3, d4⟩ := ba d2
            split at d3
            · rename_i ccl cdd vs ccs hl
              split at d3
              · rename_i n tf hvs
                have en : n = (P.main.file : Str) := of_decide_eq_true d3
                subst en
                split at d4
                · rename_i cl cld D csl hcell
                  have eD : D = ga K d.x := of_decide_eq_true d4
                  subst eD
                  refine ⟨d.qual, m, oc, od, n9, n10, n11, n12, cda, cc, n14, osl, p1, p2, q1, q2, q3, q4, q5, q6, q7, q8, q9, q10, ccl, cdd, vs, ccs, tf, cl, cld, csl, ?_, d1, hl, hvs, hcell, hp⟩
                  rw [hA, hB, hS]
                · cases d4
              · cases d3
            · cases d3
          | _ => cases c14
    | _ => cases c14
/-! ### the Hook -/
abbrev AlX : Type := Bool × List FnW × List FnX
def obsX (file : Str) (fa : List Fct) (fn : List DefD) (fi : List InD) (K : PySem.W.Frag) : AlX := (((fa.all fun f => f K) && (fn.all fun d => d.ok K)) && (fi.all fun d => d.ok file K), fn.map (fun d => fnW K d.at_), fi.map fun d => fnXo K d.x)
def valX (fn : List DefD) (fi : List InD) : AlX := (true, fn.map DefD.val, fi.map InD.val)
def SaysX (file : Str) (fa : List Fct) (fn : List DefD) (fi : List InD) (K : PySem.W.Frag) : Prop := obsX file fa fn fi K = valX fn fi
def obsXG (n : Nat) (file : Str) (fa : List Fct) (fn : List DefD) (fi : List InD) (g : Addr → Option Obj) : AlX := obsX file fa fn fi (frG g (asR g n))
def hookX (n : Nat) (file : Str) (fa : List Fct) (fn : List DefD) (fi : List InD) : PySem.W.Hook where
  α := AlX
  obs := fun s => obsXG n file fa fn fi s.heap.get?
  val := fun _ => valX fn fi
  says := fun _ h => ∃ K : PySem.W.Frag, K.In h ∧ SaysX file fa fn fi K
  of := fun _ _ e => ⟨_, frG_in, e⟩
  keeps := fun _ _ _ ⟨K, hK, c⟩ k => ⟨K, PySem.W.Frag.In.keeps hK k, c⟩
theorem obsXG_eq {n : Nat} {file : Str} {fa : List Fct} {fn : List DefD} {fi : List InD} {g : Addr → Option Obj} {s : Shared} (h : ∀ a, g a = s.heap.get? a) : obsXG n file fa fn fi g = (hookX n file fa fn fi).obs s := by
  have e : g = s.heap.get? := funext h
  rw [e] <;> rfl
section
variable {file : Str} {fa : List Fct} {fn : List DefD} {fi : List InD} {K : PySem.W.Frag}
theorem SaysX.fact (c : SaysX file fa fn fi K) (i : Nat) {f : Fct} (h : fa[i]? = some f := by rfl) : f K = true := by
  have c1 := (ba (ba (show (((fa.all fun f => f K) && (fn.all fun d => d.ok K)) && (fi.all fun d => d.ok file K)) = true from congrArg (fun z : AlX => z.1) c)).1).1
  exact List.all_eq_true.mp c1 f (List.mem_of_getElem? h)
theorem SaysX.def_ (c : SaysX file fa fn fi K) (i : Nat) {d : DefD} (h : fn[i]? = some d := by rfl) : ∃ fd, FunD K d.name d.qual d.params d.body d.scope (d.dvs K) (d.kws K) (fAd K d.at_) fd := by
  have c2 := (ba (ba (show (((fa.all fun f => f K) && (fn.all fun d => d.ok K)) && (fi.all fun d => d.ok file K)) = true from congrArg (fun z : AlX => z.1) c)).1).2
  have e : fn.map (fun d => fnW K d.at_) = fn.map DefD.val := congrArg (fun z : AlX => z.2.1) c
  have e2 : (fn.map fun d => fnW K d.at_)[i]? = (fn.map DefD.val)[i]? := by rw [e]
  rw [List.getElem?_map, List.getElem?_map, h] at e2
  exact DefD.funD (Option.some.inj e2) (List.all_eq_true.mp c2 d (List.mem_of_getElem? h))
theorem SaysX.ini (c : SaysX file fa fn fi K) (i : Nat) {d : InD} (h : fi[i]? = some d := by rfl) : fnXo K d.x = d.val ∧ d.ok file K = true := by
  have c2 := (ba (show (((fa.all fun f => f K) && (fn.all fun d => d.ok K)) && (fi.all fun d => d.ok file K)) = true from congrArg (fun z : AlX => z.1) c)).2
  have e : fi.map (fun d => fnXo K d.x) = fi.map InD.val := congrArg (fun z : AlX => z.2.2) c
  have e2 : (fi.map fun d => fnXo K d.x)[i]? = (fi.map InD.val)[i]? := by rw [e]
  rw [List.getElem?_map, List.getElem?_map, h] at e2
  exact ⟨Option.some.inj e2, List.all_eq_true.mp c2 d (List.mem_of_getElem? h)⟩
end
end FxH
/-! Short words over the layer: a def by its name (Src), a def that keeps its promise (Cal), constants (Cst) -/
namespace Fx
open PySem PySem.Spec PyProof.Rows L2
/-- a def of the text as it stands behind the top -/
def Src (K : PySem.W.Frag) (mg : Str → Option Value) (x : Str) (st : Stmt) : Prop := ∃ f fd, mg x = some (.ref f) ∧ FunD K x x (defArgs st) (defBody st) (defScope st) [] [] f fd
/-- a def that keeps its promise -/
structure Cal (P : Program) (w : World) (K : PySem.W.Frag) (mg : Str → Option Value) (base : Heap) (CX : CXT) (k : Nat) (x : Str) (ps : List Str) (sp : Sp) : Prop where
  ex : ∃ f fd, mg x = some (.ref f) ∧ PySem.W.keepIn K (.ref f) = true ∧ Binds K fd ps [] ∧ FnOk P w K mg base CX k f fd ps sp
/-- a constant of the module -/
def Cst (mg : Str → Option Value) (x : Str) (v : V) : Prop := ∃ u, mg x = some u ∧ RelV v u
section
variable {P : Program} {w : World} {K : PySem.W.Frag} {mg : Str → Option Value} {base : Heap} {x : Str} {st : Stmt} {N ps : List Str} {k : Nat} {sp : Sp}
abbrev BindP (x : Str) (st : Stmt) (ps : List Str) : Prop := ∀ (kV doc pm : Value) (an : Option Addr) (cdv ct : Value) (us : List Value), us.length = ps.length → bindArgs (PySem.W.fnOf x x (defArgs st) (defBody st) (defScope st) .none kV doc pm an cdv ct) ⟨us, []⟩ = pure (ps.zip us)
/-- a def that lets nothing out -/
theorem Src.cal (S : Src K mg x st) (sc : FnScope N ps (defScope st)) (bn : BindP x st ps) (len : ∀ vs H Q E, sp vs H Q E → vs.length = ps.length)
    (hbody : ∀ (f : Addr) (cdv : Value) (A : Around) (outer : List Env) (s : Shared) (H : Hp) (vs : List V) (Q : VK) (E : XK), Room k (A.deeper (envOfC x (defScope st) s.heap.objs.size f cdv)) → sp vs H Q E →
      ∃ t, PSs (cxOf CX0 P w K mg base N x (defScope st) f cdv A outer s H E).nox (defBody st) t ∧ t { nx := fun _ H' => Q .non H', rt := Q } (start N vs) H) : Cal P w K mg base CX0 (k + 1) x ps sp := by
  obtain ⟨f, fd, g, F⟩ := S
  refine ⟨f, fd, g, F.kp, F.bindsN bn, F.ok sc len fun cdv A outer s H vs Q E hr hsp => ?_⟩
  obtain ⟨t, h, q⟩ := hbody f cdv A outer s H vs Q E hr hsp
  exact ⟨t, h.nox, q⟩
/-- a def that may raise -/
theorem Src.calX (S : Src K mg x st) (sc : FnScope N ps (defScope st)) (bn : BindP x st ps) (len : ∀ vs H Q E, sp vs H Q E → vs.length = ps.length)
    (hbody : ∀ (f : Addr) (cdv : Value) (A : Around) (outer : List Env) (s : Shared) (H : Hp) (vs : List V) (Q : VK) (E : XK), Room k (A.deeper (envOfC x (defScope st) s.heap.objs.size f cdv)) → sp vs H Q E →
      ∃ t, PSs (cxOf (L2.CX P w) P w K mg base N x (defScope st) f cdv A outer s H E) (defBody st) t ∧ t { nx := fun _ H' => Q .non H', rt := Q } (start N vs) H) : Cal P w K mg base (L2.CX P w) (k + 1) x ps sp := by
  obtain ⟨f, fd, g, F⟩ := S
  exact ⟨f, fd, g, F.kp, F.bindsN bn, F.ok sc len fun cdv A outer s H vs Q E hr hsp => hbody f cdv A outer s H vs Q E hr hsp⟩
end
/-! ### arguments without a star -/
def nostar : Expr → Bool
  | .Starred _ _ => false
  | _ => true
theorem star_ok {e : Expr} {es : List Expr} {env : Env} (h : nostar e = true) : starEach (e :: es) env = (false, eval e env) :: starEach es env := by
  cases e <;> first | rfl | cases h
theorem back_ok {pos : Pos} {env : Env} : ∀ {es : List Expr}, es.all nostar = true → (backTo pos (starEach es env)).any (·.1) = false
  | [], _ => rfl
  | e :: es, h => by
    simp only [List.all_cons, Bool.and_eq_true] at h
    rw [star_ok h.1]
    show (false || (backTo pos (starEach es env)).any (·.1)) = false
    rw [back_ok h.2]
    rfl
theorem pa_c {X : Cx} {e : Expr} {es : List Expr} {te : TE} {t : TA} (ha : PE X e te) (hr : PA X es t) (hs : nostar e = true := by rfl) : PA X (e :: es) (tCons te t) := pa_cons ha hr (star_ok hs)
section
variable {X : Cx} {x : Str} {p pos : Pos} {e : Expr} {es : List Expr} {t : TA} {id T : String} {r : List V → Hp → VK → Prop}
theorem pe_cB (hc : CallR X (.builtin id) r) (hm : X.mg x = none) (hv : bootBuiltins x = some (.builtin id)) (ha : PA X (e :: es) t) (hg : Gl X x := by rfl) (hn : x ≠ "__name__" := by decide) (hdb : (x == ("__debug__" : Str)) = false := by decide)
    (hs : (e :: es).all nostar = true := by rfl) : PE X (.Call (.Name x p) (e :: es) [] pos) (tCB r t) := by
  simp only [List.all_cons, Bool.and_eq_true] at hs
  exact pe_callB hc hg hm hv ha hn hdb (star_ok hs.1) (back_ok hs.2)
theorem pe_cTy (hc : CallR X (.type T) r) (hm : X.mg x = none) (hv : bootBuiltins x = some (.type T)) (ha : PA X (e :: es) t) (hg : Gl X x := by rfl) (hn : x ≠ "__name__" := by decide) (hdb : (x == ("__debug__" : Str)) = false := by decide)
    (hs : (e :: es).all nostar = true := by rfl) : PE X (.Call (.Name x p) (e :: es) [] pos) (tCB r t) := by
  simp only [List.all_cons, Bool.and_eq_true] at hs
  exact pe_callTy hc hg hm hv ha hn hdb (star_ok hs.1) (back_ok hs.2)
end
section
variable {X : Cx} {x : Str} {ps : List Str} {sp : Sp} {k : Nat} {CX : CXT} {E : XK} {e : Expr} {es : List Expr} {t : TA} {p pos : Pos}
/-- f(e, ..) -/
theorem pe_cal (C : Cal X.prog X.w X.K X.mg X.base CX k x ps sp) (hr : Room k X.A) (hx : Passes CX X E) (ha : PA X (e :: es) t) (hg : Gl X x := by rfl) (hdb : (x == ("__debug__" : Str)) = false := by decide)
    (hs : (e :: es).all nostar = true := by rfl) : PE X (.Call (.Name x p) (e :: es) [] pos) (tCall sp [] E t) := by
  obtain ⟨f, fd, g, kp, b, F⟩ := C.ex
  simp only [List.all_cons, Bool.and_eq_true] at hs
  exact pe_call F hr hg g kp b .nil hx ha hdb (star_ok hs.1) (back_ok hs.2)
theorem pe_cal0 (C : Cal X.prog X.w X.K X.mg X.base CX k x ps sp) (hr : Room k X.A) (hx : Passes CX X E) (hg : Gl X x := by rfl) (hdb : (x == ("__debug__" : Str)) = false := by decide) : PE X (.Call (.Name x p) [] [] pos) (tCall sp [] E tNil) := by
  obtain ⟨f, fd, g, kp, b, F⟩ := C.ex
  exact pe_call0 F hr hg g kp b .nil hx hdb
/-- f(e, ..) of a def that may raise, in a try's body -/
theorem pe_calS {W : WX} (C : Cal X.prog X.w X.K X.mg X.base (L2.CX X.prog X.w) k x ps sp) (hr : Room k X.A) (tk : Takes X W) (ha : PA X (e :: es) t) (hg : Gl X x := by rfl) (hdb : (x == ("__debug__" : Str)) = false := by decide)
    (hs : (e :: es).all nostar = true := by rfl) : PE X (.Call (.Name x p) (e :: es) [] pos) (tCallS sp (WE W) t) := by
  obtain ⟨f, fd, g, kp, b, F⟩ := C.ex
  simp only [List.all_cons, Bool.and_eq_true] at hs
  exact pe_callS F hr hg g kp b (fun σ => passAt tk σ) ha hdb (star_ok hs.1) (back_ok hs.2)
theorem pe_cst {v : V} (h : Cst X.mg x v) (hg : Gl X x := by rfl) (hdb : (x == ("__debug__" : Str)) = false := by decide) : PE X (.Name x p) (tC v) := by
  obtain ⟨u, hm, r⟩ := h
  exact pe_glob hg hm r hdb
end
end Fx
/-! The law's bag of numbers -/
namespace Fx
open PySem PySem.Spec PyProof.Rows L2
def bagKV (c : Addr) (a r m n : Int) : List (Key × V) := [(.inr "cells", .ref c), (.inr "at", .int a), (.inr "rest", .int r), (.inr "mixed", .int m), (.inr "count", .int n)]
section
variable {c : Addr} {a r m n : Int} {v : Int}
theorem bag_cells : valV (bagKV c a r m n) (.inr "cells") = some (.ref c) := rfl
theorem bag_at : valV (bagKV c a r m n) (.inr "at") = some (.int a) := rfl
theorem bag_rest : valV (bagKV c a r m n) (.inr "rest") = some (.int r) := rfl
theorem bag_mixed : valV (bagKV c a r m n) (.inr "mixed") = some (.int m) := rfl
theorem bag_count : valV (bagKV c a r m n) (.inr "count") = some (.int n) := rfl
theorem bag_atP : putK (bagKV c a r m n) (.inr "at") (.int v) = bagKV c v r m n := rfl
theorem bag_restP : putK (bagKV c a r m n) (.inr "rest") (.int v) = bagKV c a v m n := rfl
theorem bag_mixedP : putK (bagKV c a r m n) (.inr "mixed") (.int v) = bagKV c a r v n := rfl
theorem bag_countP : putK (bagKV c a r m n) (.inr "count") (.int v) = bagKV c a r m v := rfl
end
/-- the bag at b, its numbers at c -/
def BagC (H : Hp) (b c : Addr) : Prop := ∃ (ns : List Int) (a r m n : Int), H b = some (.dK (bagKV c a r m n)) ∧ H c = some (.lst (ns.map V.int)) ∧ 0 ≤ a
def Bag (H : Hp) (b : Addr) : Prop := ∃ c : Addr, BagC H b c
/-- all that was tracked but the bag is as it was; the bag is a bag -/
structure Kp (b : Addr) (H H' : Hp) : Prop where
  keep : ∀ a o, a ≠ b → H a = some o → H' a = some o
  bag : Bag H' b
  cel : ∀ c, BagC H b c → BagC H' b c
section
variable {b c D : Addr} {H H1 H2 : Hp}
theorem Bag.some (B : Bag H b) : ∃ kvs, H b = some (.dK kvs) := by
  obtain ⟨c, ns, a, r, m, n, h, _⟩ := B
  exact ⟨_, h⟩
theorem BagC.same (B : BagC H b c) (s : Same H H1) : BagC H1 b c := by
  obtain ⟨ns, a, r, m, n, h1, h2, h3⟩ := B
  exact ⟨ns, a, r, m, n, s _ _ h1, s _ _ h2, h3⟩
theorem Kp.refl (B : Bag H b) : Kp b H H := ⟨fun _ _ _ h => h, B, fun _ h => h⟩
theorem Kp.trans (x : Kp b H H1) (y : Kp b H1 H2) : Kp b H H2 := ⟨fun a o n h => y.keep a o n (x.keep a o n h), y.bag, fun c h => y.cel c (x.cel c h)⟩
theorem Bag.same (B : Bag H b) (s : Same H H1) : Bag H1 b := by
  obtain ⟨c, h⟩ := B
  exact ⟨c, h.same s⟩
theorem Kp.same (B : Bag H b) (s : Same H H1) : Kp b H H1 := ⟨fun a o _ h => s a o h, B.same s, fun c h => h.same s⟩
theorem Kp.then (x : Kp b H H1) (s : Same H1 H2) : Kp b H H2 := x.trans (Kp.same x.bag s)
theorem BagC.put {o : HO} (B : BagC H b c) (hb : b ≠ D) (hc : c ≠ D) : BagC (upd H D o) b c := by
  obtain ⟨ns, a, r, m, n, h1, h2, h3⟩ := B
  exact ⟨ns, a, r, m, n, by rw [upd_ne hb]; exact h1, by rw [upd_ne hc]; exact h2, h3⟩
/-- what was made since then may be changed -/
theorem Kp.put {o : HO} (B : Bag H b) (x : Kp b H H1) (hD : H D = Option.none) : Kp b H (upd H1 D o) := by
  have g : ∀ c, BagC H b c → BagC (upd H1 D o) b c := by
    intro c Bc
    have B1 := x.cel c Bc
    obtain ⟨ns, a, r, m, n, h1, h2, h3⟩ := Bc
    exact B1.put (ne_of_none h1 hD) (ne_of_none h2 hD)
  obtain ⟨c, Bc⟩ := B
  exact ⟨fun a o' n h => by rw [upd_ne (ne_of_none h hD)]; exact x.keep a o' n h, ⟨c, g c Bc⟩, g⟩
theorem Kp.none_ne (x : Kp b H H1) (B : Bag H b) (hD : H D = Option.none) : D ≠ b := fun e => by
  obtain ⟨kvs, h⟩ := B.some
  rw [← e, hD] at h
  cases h
theorem Bag.lst (B : Bag H b) {a : Addr} {xs : List V} (h : H a = Option.some (.lst xs)) : a ≠ b := by
  obtain ⟨c, ns, x, r, m, n, h1, _⟩ := B
  exact ne_of h h1 (by intro z; cases z)
theorem Bag.tup (B : Bag H b) {a : Addr} {xs : List V} (h : H a = Option.some (.tup xs)) : a ≠ b := by
  obtain ⟨c, ns, x, r, m, n, h1, _⟩ := B
  exact ne_of h h1 (by intro z; cases z)
theorem Kp.lst (x : Kp b H H1) (B : Bag H b) {a : Addr} {xs : List V} (h : H a = Option.some (.lst xs)) : H1 a = Option.some (.lst xs) := x.keep _ _ (B.lst h) h
theorem Kp.tup (x : Kp b H H1) (B : Bag H b) {a : Addr} {xs : List V} (h : H a = Option.some (.tup xs)) : H1 a = Option.some (.tup xs) := x.keep _ _ (B.tup h) h
theorem Kp.free (x : Kp b H H1) {p : Addr} (h : H1 p = Option.none) : H p = Option.none := by
  cases q : H p with
  | none => rfl
  | some o =>
    by_cases e : p = b
    · obtain ⟨kvs, hb⟩ := x.bag.some
      rw [e, hb] at h
      cases h
    · rw [x.keep p o e q] at h
      cases h
theorem same_new {H : Hp} {p : Addr} {o : HO} (h : H p = Option.none) : Same H (upd H p o) := fun b x e => by
  rw [upd_ne (ne_of_none e h)]
  exact e
end
/-- _law_pick(bag, many) -/
def spPick : Sp := fun vs H Q _ => ∃ (b : Addr) (many : Int), vs = [.ref b, .int many] ∧ Bag H b ∧ 0 < many ∧ many < 1073741824 ∧ ∀ (n : Int) (H' : Hp), 0 ≤ n → n < many → Kp b H H' → Q (.int n) H'
/-- _law_bag(script) -/
def spBag (K : PySem.W.Frag) : Sp := fun vs H Q _ => ∃ (a : Addr) (ns : List Int), vs = [.ref a] ∧ SqL K H a (ns.map V.int) ∧ ns.length ≤ 1000 ∧ ∀ (b : Addr) (H' : Hp), Same H H' → H b = none → Bag H' b → Q (.ref b) H'
end Fx
/-! Readings evaluated by simp -/
namespace Fx
open PySem PySem.Spec PyProof.Rows L2
section
variable {H H' : Hp} {a b p : Addr} {z : Str} {i : Int} {r : Option V} {v : V} {kvs : List (Key × V)} {o u : HO}
theorem dget_s (hb : H b = some (.dK kvs)) : DGet H b (.str z) r ↔ r = valV kvs (.inr z) := by
  constructor
  · rintro (⟨kvs', k, hr, e, rfl⟩ | ⟨kvs', k, b', hr, e, _⟩)
    · rcases hr with hr | ⟨o, hr⟩
      · rw [hb] at hr
        cases hr
        cases k with
        | inl i => cases e
        | inr y => cases e; rfl
      · rw [hb] at hr
        cases hr
    · cases e
  · rintro rfl
    exact DGet.k (k := Sum.inr z) hb
theorem dget_i (hb : H b = some (.dK kvs)) : DGet H b (.int i) r ↔ r = valV kvs (.inl i) := by
  constructor
  · rintro (⟨kvs', k, hr, e, rfl⟩ | ⟨kvs', k, b', hr, e, _⟩)
    · rcases hr with hr | ⟨o, hr⟩
      · rw [hb] at hr
        cases hr
        cases k with
        | inl i => cases e; rfl
        | inr y => cases e
      · rw [hb] at hr
        cases hr
    · cases e
  · rintro rfl
    exact DGet.k (k := Sum.inl i) hb
theorem dput_s (hb : H b = some (.dK kvs)) (hl : kvs.length < 1000) : DPut H b (.str z) v H' ↔ H' = upd H b (.dK (putK kvs (.inr z) v)) := by
  constructor
  · rintro (⟨kvs', k, hr, e, _, rfl⟩ | ⟨kvs', k, b', hr, e, _⟩)
    · rw [hb] at hr
      cases hr
      cases k with
      | inl i => cases e
      | inr y => cases e; rfl
    · cases e
  · rintro rfl
    exact DPut.k (k := Sum.inr z) hb (Nat.lt_of_lt_of_le hl (by decide))
theorem dget_su : DGet (upd H b (.dK kvs)) b (.str z) r ↔ r = valV kvs (.inr z) := dget_s upd_same
theorem dput_su (hl : kvs.length < 1000) : DPut (upd H b (.dK kvs)) b (.str z) v H' ↔ H' = upd H b (.dK (putK kvs (.inr z) v)) := by
  rw [dput_s upd_same hl, upd_upd]
theorem bag_len {c : Addr} {a r m n : Int} : (bagKV c a r m n).length < 1000 := show 5 < 1000 by decide
theorem ite_dec {p : Prop} [Decidable p] {A B : Prop} : (if decide p = true then A else B) ↔ (if p then A else B) := by simp
theorem ite_ndec {p : Prop} [Decidable p] {A B : Prop} : (if (!decide p) = true then A else B) ↔ (if p then B else A) := by
  by_cases h : p <;> simp [h]
end
end Fx
namespace Fx
open PySem PySem.Spec PyProof.Rows L2
/-- one statement first; the rest stays folded -/
theorem seqI {t u : TS} {D : Ends} {σ : L2.St} {H : Hp} (h : ∀ K : L2.St → Hp → Prop, (∀ σ H, u D σ H → K σ H) → t { D with nx := K } σ H) : tSeq t u D σ H := h (u D) fun _ _ x => x
theorem ifI {tc : TT} {t u : TS} {D : Ends} {σ : L2.St} {H : Hp} (h : ∀ A B : Hp → Prop, (∀ H1, t D σ H1 → A H1) → (∀ H1, u D σ H1 → B H1) → tc σ H (fun b H1 => if b = true then A H1 else B H1)) : tIfS tc t u D σ H := h (t D σ) (u D σ) (fun _ x => x) (fun _ x => x)
theorem while_i {c : TT} {tb : TS} {D : Ends} {σ : L2.St} {H : Hp} (Pv : L2.St → Hp → Prop) (μ : L2.St → Hp → Nat) (h0 : Pv σ H)
    (hs : ∀ σ H, Pv σ H → ∀ A B : Hp → Prop, (∀ H1, tb { D with nx := fun σ' H' => Pv σ' H' ∧ μ σ' H' < μ σ H, ct := fun σ' H' => Pv σ' H' ∧ μ σ' H' < μ σ H, bk := D.nx } σ H1 → A H1) → (∀ H1, D.nx σ H1 → B H1) → c σ H fun b H1 => if b = true then A H1 else B H1) : tWhile c tb D σ H := by
  refine ⟨fun m σ H => m = μ σ H ∧ Pv σ H, ⟨_, rfl, h0⟩, ?_⟩
  rintro m σ H ⟨rfl, p⟩
  exact hs σ H p _ _ (fun H1 t => ⟨fun σ' H' => Pv σ' H' ∧ μ σ' H' < μ σ H, fun σ' H' ⟨a, b⟩ => ⟨μ σ' H', b, rfl, a⟩, t⟩) (fun H1 x => x)
theorem forI {wi : TI} {g : TG} {tb : TS} {D : Ends} {σ : L2.St} {H : Hp} (h : ∀ R : It → Hp → Prop, (∀ J H1, (∃ W : Nat → Nat → L2.St → Hp → Prop, (∃ m, W 0 m σ H1) ∧ ∀ i m σ H, W i m σ H →
    (J.stop i H ∧ D.nx σ H) ∨ (J.go i H ∧ ∃ N : L2.St → Hp → Prop, (∀ σ' H', N σ' H' → ∃ m', m' < m ∧ W (i + 1) m' σ' H') ∧ ∀ x H', J.yld i H x H' → g x σ H' fun σ2 H2 => tb { D with nx := N, ct := N, bk := D.nx } σ2 H2)) → R J H1) → wi σ H R) : tFor wi g tb D σ H := h _ fun _ _ x => x
theorem ite_i {c A B : Prop} [Decidable c] (h1 : c → A) (h2 : ¬ c → B) : if c then A else B := ite2 h1 h2
theorem sz {n : Nat} (h : n ≤ 100000) : n ≤ sizeLine := Nat.le_trans h (by decide)
end Fx
namespace Fx
open PySem PySem.Spec PyProof.Rows L2
theorem cx_K {CX : CXT} {P : Program} {w : World} {K : PySem.W.Frag} {mg : Str → Option Value} {base : Heap} {N : List Str} {qual : Str} {scope : Scope} {f : Addr} {cd : Value} {A : Around} {outer : List Env} {s : Shared} {H : Hp} {E : XK} :
    (cxOf CX P w K mg base N qual scope f cd A outer s H E).K = K := rfl
end Fx
/-! Rules whose readings ask the tracked heap alone -/
namespace Fx
open PySem PySem.Spec PyProof.Rows L2
section
variable {X : Cx}
theorem IxR.imp {r r' : R2} (h : IxR X r) (i : ∀ x y H Q, r' x y H Q → r x y H Q) : IxR X r' := by
  intro value slice pins s σ H x y v u Q I rx ry q e
  exact h value slice pins s σ H x y v u Q I rx ry (i _ _ _ _ q) e
theorem CallR.imp {f : Value} {r r' : List V → Hp → VK → Prop} (h : CallR X f r) (i : ∀ xs H Q, r' xs H Q → r xs H Q) : CallR X f r' := fun pins s σ H xs us Q I rx q => h pins s σ H xs us Q I rx (i _ _ _ q)
theorem SlR.imp {r r' : V → Option Int → Option Int → Hp → VK → Prop} (h : SlR X r) (i : ∀ x lo hi H Q, r' x lo hi H Q → r x lo hi H Q) : SlR X r' := by
  intro pins s σ H x v vl vu lo hi sl Q I rx hs pl pu q
  exact h pins s σ H x v vl vu lo hi sl Q I rx hs pl pu (i _ _ _ _ _ q)
/-- xs[i], a tracked list | tuple -/
def rIxLt : R2 := fun x y H Q => ∃ p i xs, x = .ref p ∧ y = .int i ∧ H p = some (.lst xs) ∧ ∃ v, atI xs i = some v ∧ Q v H
def rIxTt : R2 := fun x y H Q => ∃ p i xs, x = .ref p ∧ y = .int i ∧ H p = some (.tup xs) ∧ ∃ v, atI xs i = some v ∧ Q v H
theorem ix_L : IxR X rIxLt := IxR.imp ix_list fun x y H Q ⟨p, i, xs, e1, e2, h, v, a, q⟩ => ⟨p, xs, i, v, e1, e2, .inl (.inl h), a, q⟩
theorem ix_T : IxR X rIxTt := IxR.imp ix_tup fun x y H Q ⟨p, i, xs, e1, e2, h, v, a, q⟩ => ⟨p, xs, i, v, e1, e2, .inl (.inl h), a, q⟩
/-- s[i] -/
def rIxSt : R2 := fun x y H Q => ∃ z i, x = .str z ∧ y = .int i ∧ z.length ≤ sizeLine ∧ ∃ c, atI z.cps.toList i = some c ∧ Q (.str ⟨#[c]⟩) H
theorem ix_S : IxR X rIxSt := IxR.imp ix_str fun x y H Q ⟨z, i, e1, e2, h, v, a, q⟩ => ⟨z, i, v, e1, e2, h, a, q⟩
/-- len(xs) -/
def rLenL : List V → Hp → VK → Prop := fun xs H Q => ∃ p ys, xs = [.ref p] ∧ H p = some (.lst ys) ∧ Q (.int ys.length) H
def rLenT : List V → Hp → VK → Prop := fun xs H Q => ∃ p ys, xs = [.ref p] ∧ H p = some (.tup ys) ∧ Q (.int ys.length) H
theorem len_L : CallR X (.builtin "len") rLenL := CallR.imp call_len_seq fun xs H Q ⟨p, ys, e, h, q⟩ => ⟨p, ys, e, .inl (.inl (.inl h)), q⟩
theorem len_T : CallR X (.builtin "len") rLenT := CallR.imp call_len_seq fun xs H Q ⟨p, ys, e, h, q⟩ => ⟨p, ys, e, .inr (.inl (.inl h)), q⟩
def rLenS : List V → Hp → VK → Prop := fun xs H Q => ∃ z, xs = [.str z] ∧ z.length ≤ sizeLine ∧ Q (.int z.length) H
theorem len_S : CallR X (.builtin "len") rLenS := call_len_str
/-- int(n) -/
def rIntI : List V → Hp → VK → Prop := fun xs H Q => ∃ i, xs = [.int i] ∧ Q (.int i) H
theorem int_I : CallR X (.type "int") rIntI := CallR.imp call_int1 fun xs H Q h => .inl h
def rOrd : List V → Hp → VK → Prop := fun xs H Q => ∃ x, xs = [.str x] ∧ x.length = 1 ∧ Q (.int (x.cps.getD 0 0 : Nat)) H
theorem ord_S : CallR X (.builtin "ord") rOrd := call_ord
/-- xs[a:b] -/
def rSlLt : V → Option Int → Option Int → Hp → VK → Prop := fun x lo hi H Q => ∃ a xs, x = .ref a ∧ H a = some (.lst xs) ∧ ∀ p, H p = none → Q (.ref p) (upd H p (.lst (cutV xs lo hi)))
theorem sl_L : SlR X rSlLt := SlR.imp sl_list fun x lo hi H Q ⟨a, xs, e, h, q⟩ => ⟨a, xs, e, .inl (.inl h), q⟩
/-- list(t), list(xs) -/
def rLstL : List V → Hp → VK → Prop := fun xs H Q => ∃ p ys, xs = [.ref p] ∧ H p = some (.lst ys) ∧ ∀ l, H l = none → Q (.ref l) (upd H l (.lst ys))
def rLstT : List V → Hp → VK → Prop := fun xs H Q => ∃ p ys, xs = [.ref p] ∧ H p = some (.tup ys) ∧ ∀ l, H l = none → Q (.ref l) (upd H l (.lst ys))
theorem list_L : CallR X (.type "list") rLstL := CallR.imp call_list_of fun xs H Q ⟨p, ys, e, h, q⟩ => ⟨p, ys, e, .inl (.inl (.inl h)), q⟩
theorem list_T : CallR X (.type "list") rLstT := CallR.imp call_list_of fun xs H Q ⟨p, ys, e, h, q⟩ => ⟨p, ys, e, .inr (.inl (.inl h)), q⟩
/-- all(xs), any(xs) of truth values -/
def rAllL : List V → Hp → VK → Prop := fun vs H Q => ∃ (a : Addr) (bs : List Bool), vs = [V.ref a] ∧ H a = some (.lst (bs.map V.bl)) ∧ Q (.bl (bs.all id)) H
def rAnyL : List V → Hp → VK → Prop := fun vs H Q => ∃ (a : Addr) (bs : List Bool), vs = [V.ref a] ∧ H a = some (.lst (bs.map V.bl)) ∧ Q (.bl (bs.any id)) H
theorem all_L (hc : X.calm = true) : CallR X (.builtin "all") rAllL := CallR.imp (cr_all hc) fun xs H Q ⟨p, ys, e, h, q⟩ => ⟨p, ys, e, .inl (.inl h), q⟩
theorem any_L (hc : X.calm = true) : CallR X (.builtin "any") rAnyL := CallR.imp (cr_any hc) fun xs H Q ⟨p, ys, e, h, q⟩ => ⟨p, ys, e, .inl (.inl h), q⟩
/-- s * n -/
def rMulS : R2 := fun x y H Q => ∃ z n, x = .str z ∧ y = .int n ∧ 0 ≤ n ∧ n ≤ 1000000 ∧ z.length * n.toNat ≤ 1000000 ∧ Q (.str (Txt.mul z n)) H
theorem mulOk_of {z : Str} {n : Int} (h0 : 0 ≤ n) (h : z.length * n.toNat ≤ 1000000) (hn : z.length ≠ 0 → n ≤ 1000000) (h63 : n < 2 ^ 63) : MulOk z n := by
  refine ⟨?_, fun h1 h2 => ?_, fun h1 h2 => ?_⟩
  · have a : ¬ n < -(2 ^ 63 : Int) := by omega
    have b : ¬ n ≥ 2 ^ 63 := by omega
    simp only [decide_eq_false a, decide_eq_false b, Bool.or_self]
  · simp only [Bool.or_eq_false_iff, beq_eq_false_iff_ne] at h2
    have hz := hn h2.2
    have hl : z.length ≤ 1000000 := Nat.le_trans (Nat.le_mul_of_pos_right _ (by omega)) h
    have : (2 ^ 63 - 1) / n ≥ 1000000 := by
      apply (Int.le_ediv_iff_mul_le (by omega)).mpr
      have : 1000000 * n ≤ 1000000 * 1000000 := Int.mul_le_mul_of_nonneg_left hz (by decide)
      omega
    omega
  · unfold Builtin.Str.tooLong
    rw [decide_eq_false_iff_not, sizeLine_eq]
    omega
theorem op_mul_str : OpR X (binaryOp .Mult) rMulS := by
  intro pins s σ H x y v u Q I rx ry h
  obtain ⟨z, n, rfl, rfl, h0, h1, hl, q⟩ := h
  obtain ⟨t, rfl⟩ := rx
  obtain ⟨t', rfl⟩ := ry
  exact SB.mul (mulOk_of h0 hl (fun _ => h1) (by omega)) fun t' k => ⟨.str (Txt.mul z n), H, I.tok _, ⟨_, rfl⟩, q⟩
end
/-! ### for i, c in enumerate(text) -/
def Ites (z : Str) : It :=
  ⟨fun i _ => i < z.cps.size, fun i H v H' => ∃ T c, v = .ref T ∧ H T = none ∧ H' = upd H T (.tup [.int (i : Nat), .str ⟨#[c]⟩]) ∧ z.cps[i]? = some c, fun i _ => z.cps.size ≤ i⟩
theorem strDraws {P : Program} {w : World} {A : Around} (hh : A.handled = none) (it : Addr) (x : Str) (t : Tok) : Draws P w A it [it] x.cps.size (fun i v => ∃ c u, x.cps[i]? = some c ∧ v = .str ⟨#[c]⟩ u) (fun i h => h.IsStrIter it (strIterType x) x t i) := by
  have e : strIterType x = "str_ascii_iterator" ∨ strIterType x = "str_iterator" := by
    unfold strIterType
    split
    · exact .inl rfl
    · exact .inr rfl
  rcases e with e | e
  · rw [e]; exact Draws.strAscii hh it x t
  · rw [e]; exact Draws.strWide hh it x t
theorem turn_enumS {P : Program} {w : World} {K : PySem.W.Frag} {elts : List Expr} {kk : Nat} {tpos : Pos} (x : Str) (t : Tok) (e it : Addr) :
    Turn P w K (.Tuple elts kk tpos) (Ites x) [e, it] e (fun i h => (∃ old, IsEnum h e it ((i : Nat) : Int) old) ∧ h.IsStrIter it (strIterType x) x t i ∧ i ≤ x.cps.size ∧ e ≠ it) where
  mem := by simp
  obj := fun i h st b hb => by
    obtain ⟨⟨old, he⟩, ⟨o, ho, hc, hd⟩, _⟩ := st
    have e' : b = e ∨ b = it := by simpa using hb
    rcases e' with z | z
    · rw [z]; exact ⟨_, he, fun v q => nomatch q⟩
    · rw [z]; exact ⟨o, ho, fun v q => by rw [hd] at q; cases q⟩
  keep := fun i h h' st k => let ⟨⟨old, he⟩, ⟨o, ho, hr⟩, hi, hne⟩ := st; ⟨⟨old, k e (by simp) _ he⟩, ⟨o, k it (by simp) o ho, hr⟩, hi, hne⟩
  item := by
    intro X hP hw hK hc i pins s σ H E I hf st hg
    subst hP hw hK
    obtain ⟨⟨old, he⟩, hit, hi, hne⟩ := st
    have hel : e < s.heap.objs.size := Heap.lt_size he
    have hil : it < s.heap.objs.size := by obtain ⟨_, q, _⟩ := hit; exact Heap.lt_size q
    have D := strDraws (P := X.prog) (w := X.w) (A := X.A.in1) (show X.A.in1.handled = none from I.ok.hd hc) it x t
    refine wpAny_pyNext_enum_itemD D he hit hg hne (by simpa using hne) fun u h' tk hu ho hit' hT hsz hk => ?_
    obtain ⟨c, tc, hcx, rfl⟩ := hu
    refine ⟨_, rfl, wpAny_letOwnedTupleGo_enum (s := { s with heap := h', toks := tk + 1 }) ho fun h'' he' sb => ?_⟩
    have hT2 : h''.get? s.heap.objs.size = some { cls := .type "tuple", data := .seq #[.int i tk, .str ⟨#[c]⟩ tc] } := (sb.2 _ (Nat.ne_of_gt hel)).trans hT
    have new : ObjOk X.prog X.w (upd H s.heap.objs.size (.tup [.int (i : Nat), .str ⟨#[c]⟩])) h'' s.heap.objs.size (.tup [.int (i : Nat), .str ⟨#[c]⟩]) :=
      ⟨by show 2 ≤ sizeLine; decide, [.int i tk, .str ⟨#[c]⟩ tc], .cons ⟨_, rfl⟩ (.cons ⟨_, rfl⟩ .nil), ⟨_, hT2, rfl, _, rfl⟩⟩
    have I1 : Inv X pins σ (upd H s.heap.objs.size (.tup [.int (i : Nat), .str ⟨#[c]⟩])) { s with heap := h'', toks := tk + 1 } :=
      I.turnedNew (ch := [e, it]) (fun b ob hb q => (sb.2 b (fun z => hb (by simp [z]))).trans (hk b ob (fun z => hb (by simp [z])) (fun z => hb (by simp [z])) q)) hf (Nat.le_refl _) new
    refine ⟨.ref s.heap.objs.size, _, I1, rfl, ⟨_, c, rfl, I.hok.fresh (Nat.le_refl _), rfl, hcx⟩, ⟨⟨.str ⟨#[c]⟩ tc, ?_⟩, ?_, hg, hne⟩, fun b hb => ?_⟩
    · have e1 : ((i + 1 : Nat) : Int) = (i : Int) + 1 := by omega
      rw [e1]; exact he'
    · obtain ⟨o, ho2, hr⟩ := hit'
      exact ⟨o, (sb.2 it (Ne.symm hne)).trans ho2, hr⟩
    · have hb' : b < s.heap.objs.size := by
        have e' : b = e ∨ b = it := by simpa using hb
        rcases e' with z | z
        · rw [z]; exact hel
        · rw [z]; exact hil
      rw [upd_ne (Nat.ne_of_lt hb')]
      exact (hf b hb).1
  done := by
    intro X hP hw hK hc i pins s σ H E I hf st hg
    subst hP hw hK
    obtain ⟨⟨old, he⟩, hit, hi, hne⟩ := st
    have ei : i = x.cps.size := Nat.le_antisymm hi hg
    subst ei
    obtain ⟨f0, f1, f2, f3, f4, f5⟩ := hf it (by simp)
    have D := strDraws (P := X.prog) (w := X.w) (A := X.A.in1) (show X.A.in1.handled = none from I.ok.hd hc) it x t
    exact wpAny_pyNext_enum_endD D he hit fun h' eb => ⟨rfl, I.turned (t' := s.toks) (fun b o hb q => eb b o hb q) f0 f1 f3 f4 f5⟩
  self := fun A i s Q E st h => let ⟨⟨_, he⟩, _⟩ := st; wpAny_pyIter_enum he h
def iEnumS (ta : TA) : TI := fun σ H R => ta σ H fun vs H1 => ∃ z, vs = [.str z] ∧ R (Ites z) H1
theorem pi_enumS {X : Cx} {e : Expr} {ta : TA} {p pos tpos : Pos} {elts : List Expr} {kk : Nat} (hg : Gl X "enumerate") (hm : X.mg "enumerate" = none) (ha : PA X [e] ta) (hs : starEach [e] X.env = [(false, eval e X.env)] := by rfl) :
    PI X (.Tuple elts kk tpos) (.Call (.Name "enumerate" p) [e] [] pos) (iEnumS ta) := by
  refine ⟨fun pins s σ H R I h => ?_⟩
  refine Call_ (ld_blt I hg hm boot_enumerate (PyProof.Rows.callWith_type1 (thn (ha.run pos pins s σ H _ I h) fun us s1 ⟨vs, H1, I1, r1, q1⟩ => ?_) hs rfl))
  obtain ⟨z, ex, q⟩ := q1
  subst ex
  cases r1 with
  | cons r rr =>
    cases rr
    obtain ⟨t, rfl⟩ := r
    refine call_enumerate_str fun h' he hit hsz hk => wpAny_pyIter_enum he ?_
    have I2 : Inv X pins σ H1 { s1 with heap := h' } := I1.kept (t' := s1.toks) hk
    refine ⟨s1.heap.objs.size + 1, [s1.heap.objs.size + 1, s1.heap.objs.size], _, _, H1, rfl, I2, turn_enumS z t (s1.heap.objs.size + 1) s1.heap.objs.size, ⟨⟨.none, he⟩, hit, Nat.zero_le _, Nat.succ_ne_self _⟩, fun b hb => ?_, q⟩
    have e' : b = s1.heap.objs.size + 1 ∨ b = s1.heap.objs.size := by simpa using hb
    have hle : s1.heap.objs.size ≤ b := by
      rcases e' with z | z
      · rw [z]; exact Nat.le_add_right _ _
      · rw [z]; exact Nat.le_refl _
    exact I1.fpOk hle (I1.hok.fresh hle)
/-- the loop over enumerate(text), by an invariant -/
theorem for_enumS {z : Str} {g : TG} {tb : TS} {D : Ends} {σ : L2.St} {H1 : Hp} (Pv : Nat → L2.St → Hp → Prop) (h0 : Pv 0 σ H1)
    (hs : ∀ i c T σ H, z.cps[i]? = some c → Pv i σ H → H T = none → g (.ref T) σ (upd H T (.tup [.int (i : Nat), .str ⟨#[c]⟩])) fun σ' H' => tb { nx := fun σ H => Pv (i + 1) σ H, rt := D.rt, bk := D.nx, ct := fun σ H => Pv (i + 1) σ H } σ' H')
    (hd : ∀ σ H, Pv z.cps.size σ H → D.nx σ H) : ∃ W : Nat → Nat → L2.St → Hp → Prop, (∃ m, W 0 m σ H1) ∧ ∀ i m σ H, W i m σ H →
      ((Ites z).stop i H ∧ D.nx σ H) ∨ ((Ites z).go i H ∧ ∃ N : L2.St → Hp → Prop, (∀ σ' H', N σ' H' → ∃ m', m' < m ∧ W (i + 1) m' σ' H') ∧ ∀ x H', (Ites z).yld i H x H' → g x σ H' fun σ2 H2 => tb { nx := N, rt := D.rt, bk := D.nx, ct := N } σ2 H2) := by
  refine ⟨fun i m σ H => m = z.cps.size - i ∧ i ≤ z.cps.size ∧ Pv i σ H, ⟨_, rfl, Nat.zero_le _, h0⟩, ?_⟩
  rintro i m σ H ⟨rfl, hi, p⟩
  by_cases hlt : i < z.cps.size
  · refine .inr ⟨hlt, fun σ' H' => Pv (i + 1) σ' H', fun σ' H' q => ⟨z.cps.size - (i + 1), by omega, rfl, hlt, q⟩, fun x H' hy => ?_⟩
    obtain ⟨T, c, rfl, nT, rfl, hc⟩ := hy
    exact hs i c T σ H hc p nT
  · have ei : i = z.cps.size := by omega
    subst ei
    exact .inl ⟨Nat.le_refl _, hd σ H p⟩
end Fx
/-! == of flat lists; isinstance of built-in classes -/
namespace Fx
open PySem PySem.Spec PyProof.Rows L2
/-- None, an int, a text: two of these are equal in Python just if they are the same -/
def isF : V → Bool
  | .non => true
  | .int _ => true
  | .str x => PyData.strOk x
  | _ => false
def datV : V → PyData
  | .non => .none
  | .int i => .int i
  | .str x => .str x
  | _ => .none
theorem eqv_dat {x y : V} (hx : isF x = true) (hy : isF y = true) : PyData.eqv (datV x) (datV y) = decide (x = y) := by
  cases x <;> cases y <;> first | (exfalso; revert hx; simp [isF]; done) | (exfalso; revert hy; simp [isF]; done) | (simp [datV, PyData.eqv]; done) | (simp only [datV, PyData.eqv, V.int.injEq, V.str.injEq]; exact Bool.eq_iff_iff.mpr (by simp)) 
theorem eqvAll_dat : ∀ {xs ys : List V}, xs.all isF = true → ys.all isF = true → PyData.eqvAll (xs.map datV) (ys.map datV) = decide (xs = ys)
  | [], [], _, _ => by simp [PyData.eqvAll]
  | [], _ :: _, _, _ => by simp [PyData.eqvAll]
  | _ :: _, [], _, _ => by simp [PyData.eqvAll]
  | x :: xs, y :: ys, hx, hy => by
    simp only [List.all_cons, Bool.and_eq_true] at hx hy
    simp only [List.map_cons, PyData.eqvAll, eqv_dat hx.1 hy.1, eqvAll_dat hx.2 hy.2]
    by_cases e : x = y <;> simp [e]
theorem dp_dat {K : PySem.W.Frag} {H : Hp} {x : V} (hx : isF x = true) : Dp K H x (datV x) := by
  cases x <;> first | (exfalso; revert hx; simp [isF]; done) | exact .non | exact .int _ | exact .str _
theorem dpAll_dat {K : PySem.W.Frag} {H : Hp} : ∀ {xs : List V}, xs.all isF = true → DpAll K H xs (xs.map datV)
  | [], _ => .nil
  | x :: xs, hx => by
    simp only [List.all_cons, Bool.and_eq_true] at hx
    exact .cons (dp_dat hx.1) (dpAll_dat hx.2)
theorem lay_flat : ∀ {xs : List V}, xs.all isF = true → PyData.canLayAll0 (xs.map datV) = true ∧ PyData.depthAll (xs.map datV) = 0
  | [], _ => by simp [PyData.canLayAll0, PyData.depthAll]
  | x :: xs, hx => by
    simp only [List.all_cons, Bool.and_eq_true] at hx
    obtain ⟨h1, h2⟩ := lay_flat hx.2
    have h3 : PyData.canLay0 (datV x) = true ∧ PyData.depth (datV x) = 0 := by
      have hx1 := hx.1
      cases x <;> first | (exfalso; revert hx1; simp [isF]; done) | exact ⟨by simpa [datV, PyData.canLay0, isF] using hx1, by simp [datV, PyData.depth]⟩
    simp [PyData.canLayAll0, PyData.depthAll, h1, h2, h3.1, h3.2]
theorem shaped_flat {xs : List V} (hx : xs.all isF = true) : SeqAt.shaped (.list (xs.map datV)) = true := by
  obtain ⟨h1, h2⟩ := lay_flat hx
  simp [SeqAt.shaped, PyData.canLay0, PyData.depth, h1, h2]
def rEqL : R2 := fun x y H Q => ∃ p q xs ys, x = .ref p ∧ y = .ref q ∧ H p = some (.lst xs) ∧ H q = some (.lst ys) ∧ xs.all isF = true ∧ ys.all isF = true ∧ Q (.bl (decide (xs = ys))) H
theorem eq_LL {X : Cx} (hu : X.A.units + 64 < cLine) : OpR X (compareOp .Eq) rEqL := by
  intro pins s σ H x y v u Q I rx ry h
  obtain ⟨p, q, xs, ys, rfl, rfl, hp, hq, fx, fy, k⟩ := h
  refine op_eqD hu pins s σ H _ _ v u Q I rx ry ⟨.list (xs.map datV), .list (ys.map datV), .lst (.inl (.inl hp)) (dpAll_dat fx), .lst (.inl (.inl hq)) (dpAll_dat fy), shaped_flat fx, shaped_flat fy, ?_⟩
  rw [PyData.eqv, eqvAll_dat fx fy]
  exact k
/-- what built-in type a value is of -/
def tyv (H : Hp) : V → Option String
  | .non => some "NoneType"
  | .bl _ => some "bool"
  | .int _ => some "int"
  | .str _ => some "str"
  | .byt _ => some "bytes"
  | .ref a => (match H a with
    | some (.lst _) => some "list"
    | some (.tup _) => some "tuple"
    | some (.dK _) => some "dict"
    | some (.dT _) => some "dict"
    | _ => none)
  | _ => none
theorem tyv_ok {K : PySem.W.Frag} {H : Hp} {x : V} {t : String} (h : tyv H x = some t) : TyX K H x (.type t) := by
  cases x with
  | non => cases h; exact .base .non
  | bl b => cases h; exact .base (.bl b)
  | int i => cases h; exact .base (.int i)
  | str z => cases h; exact .base (.str z)
  | byt b => cases h; exact .byt b
  | flt b => cases h
  | ty n => cases h
  | ref a =>
    simp only [tyv] at h
    cases e : H a with
    | none => simp only [e] at h; cases h
    | some o =>
      simp only [e] at h
      cases o <;> first | (cases h; done) | (cases h; exact .base (.lst e)) | (cases h; exact .base (.tup e)) | (cases h; exact .base (.dK e)) | (cases h; exact .base (.dT e))
section
variable {H : Hp} {a : Addr} {xs : List V} {kvs : List (Key × V)}
theorem tyv_non : tyv H .non = some "NoneType" := rfl
theorem tyv_bl {b : Bool} : tyv H (.bl b) = some "bool" := rfl
theorem tyv_int {i : Int} : tyv H (.int i) = some "int" := rfl
theorem tyv_str {z : Str} : tyv H (.str z) = some "str" := rfl
theorem tyv_lst (h : H a = some (.lst xs)) : tyv H (.ref a) = some "list" := by simp only [tyv, h]
theorem tyv_tup (h : H a = some (.tup xs)) : tyv H (.ref a) = some "tuple" := by simp only [tyv, h]
theorem tyv_dK (h : H a = some (.dK kvs)) : tyv H (.ref a) = some "dict" := by simp only [tyv, h]
end
def rIsB : List V → Hp → VK → Prop := fun xs H Q => ∃ x n, xs = [x, .ty n] ∧ ∃ t, tyv H x = some t ∧ ∃ b, kitB t n = some b ∧ Q (.bl b) H
theorem is_B {X : Cx} : CallR X (.builtin "isinstance") rIsB := CallR.imp call_isi fun xs H Q ⟨x, n, e, t, ht, b, hb, q⟩ => ⟨x, .ty n, .type t, .type n, b, e, .ty n, tyv_ok ht, kit_ty hb, q⟩
theorem kb_int_int : kitB "int" "int" = some true := by decide +kernel
theorem kb_int_bool : kitB "int" "bool" = some false := by decide +kernel
theorem kb_bool_int : kitB "bool" "int" = some true := by decide +kernel
theorem kb_bool_bool : kitB "bool" "bool" = some true := by decide +kernel
theorem kb_str_str : kitB "str" "str" = some true := by decide +kernel
theorem kb_int_str : kitB "int" "str" = some false := by decide +kernel
theorem kb_bool_str : kitB "bool" "str" = some false := by decide +kernel
theorem kb_none_str : kitB "NoneType" "str" = some false := by decide +kernel
theorem kb_list_str : kitB "list" "str" = some false := by decide +kernel
theorem kb_tuple_str : kitB "tuple" "str" = some false := by decide +kernel
theorem kb_dict_str : kitB "dict" "str" = some false := by decide +kernel
theorem kb_tuple_tuple : kitB "tuple" "tuple" = some true := by decide +kernel
theorem kb_list_list : kitB "list" "list" = some true := by decide +kernel
end Fx
/-! A def whose body begins with a token out (for str.replace): with cells too -/
namespace Fx
open PySem PySem.Spec PyProof.Rows L2
section
variable {M : Model} {A : Around} {E : Value → Shared → Prop} {s₀ s : Shared} {m cm : Str → Option Value} {env : Env}
theorem stLCT {n : Str} {v : Value} {Q : Unit → Shared → Prop} (x : InCallC s₀ env.locals m env.cells cm s) (hk : env.scope.kind = .function) (hl : env.kindOf n = some .local)
    (h : ∀ s', InCallC s₀ env.locals (fun y => if y = n then some v else m y) env.cells cm s' → 1 ≤ s'.toks → Q () s') : wpAny M A (storeName env n v) Q E s := by
  refine wpAny_storeName_local hl x.toInCall.ns (fun h' hn' hs' => h _ ⟨⟨?_, hn', fun b o e => ?_, x.toInCall.fresh⟩, fun k c hc => ?_, x.apart, x.above⟩ (Nat.le_add_left _ _)) (by rw [hk]; rfl)
  · obtain ⟨h₁, tk, rfl⟩ := x.toInCall.same
    exact ⟨h', _, rfl⟩
  · exact hs'.extBut b o (Nat.ne_of_lt (Nat.lt_of_lt_of_le (Heap.lt_size e) x.toInCall.fresh)) (x.toInCall.keep b o e)
  · exact (x.cell k c hc).sameBut hs' (Nat.ne_of_gt (x.above k c (mem_of_lookup hc)))
theorem bindParamsT (f : Str × Value → PUnit → Sem (ForInStep PUnit)) (hf : ∀ n v u, f (n, v) u = (do storeName env n v; pure (.yield ⟨⟩))) (hk : env.scope.kind = .function)
    (n : Str) (v : Value) (r : List (Str × Value)) (hl : env.kindOf n = some .local) (m cm : Str → Option Value) (s : Shared) (Q : PUnit → Shared → Prop) (x : InCallC s₀ env.locals m env.cells cm s)
    (hkind : ∀ y ∈ r, env.kindOf y.1 = some .local ∨ (env.kindOf y.1 = some .cell ∧ (env.cells.lookup y.1).isSome = true))
    (h : ∀ s', InCallC s₀ env.locals (bindL env.kindOf ((n, v) :: r) m) env.cells (bindC env.kindOf ((n, v) :: r) cm) s' → 1 ≤ s'.toks → Q ⟨⟩ s') : wpAny M A (forIn ((n, v) :: r) ⟨⟩ f) Q E s := by
  rw [List.forIn_cons, hf]
  refine wpAny_bind (wpAny_bind (stLCT x hk hl fun s' x' ht => wpAny_pure ?_))
  refine wpAny_with_toks ht (wpAny_bindParams f hf hk r _ _ s' (fun u s'' => 1 ≤ s''.toks → Q u s'') x' hkind fun s'' x'' ht' => h s'' ?_ ht')
  unfold bindL bindC
  rw [if_pos hl, if_pos hl]
  exact x''
end
section
variable {M : Model} {A : Around} {E : Value → Shared → Prop} {s : Shared}
theorem newFunctionEnvT {scope : Scope} {globals : Addr} {n : Str} {v : Value} {r : List (Str × Value)} {qual : Str} {func : Option Addr} {code : Value} {builtins : Addr} {Q : Env → Shared → Prop}
    (hk : scope.kind = .function) (hl : scope.names.lookup n = some .local)
    (hkind : ∀ x ∈ r, scope.names.lookup x.1 = some .local ∨ (scope.names.lookup x.1 = some .cell ∧ ((cellsFrom (s.heap.objs.size + 1) scope.names []).lookup x.1).isSome = true))
    (hQ : ∀ env, env = newEnv scope s.heap.objs.size globals (cellsFrom (s.heap.objs.size + 1) scope.names []) qual func code none builtins →
      ∀ s', InCallC s env.locals (bindL env.kindOf ((n, v) :: r) fun _ => none) env.cells (bindC env.kindOf ((n, v) :: r) fun _ => none) s' → 1 ≤ s'.toks → Q env s') :
    wpAny M A (newFunctionEnv scope globals [] ((n, v) :: r) qual func code none builtins) Q E s := by
  simp only [newFunctionEnv, Option.isSome_none, Bool.false_eq_true, if_false]
  refine wpAny_bind (wpAny_alloc ?_)
  refine wpAny_bind (wpAny_layCells _ (fun name kind cells => by cases hkc : kind == NameKind.cell <;> simp [hkc]) _ _ _ _ ?_)
  have ok := cellsFrom_ok scope.names (s.heap.push { cls := .type "frame", data := .dict #[] }) (s.heap.objs.size + 1) [] ⟨fun _ _ hm => (nomatch hm), List.Pairwise.nil⟩ (by rw [Heap.size_push]; exact Nat.le_refl _)
  rw [Heap.size_push] at ok
  rw [show ({ s with heap := s.heap.push { cls := .type "frame", data := .dict #[] } } : Shared).heap.objs.size = s.heap.objs.size + 1 from Heap.size_push ..]
  refine wpAny_bind (bindParamsT (s₀ := s) (env := newEnv scope s.heap.objs.size globals (cellsFrom (s.heap.objs.size + 1) scope.names []) qual func code none builtins)
    _ (fun _ _ _ => rfl) hk n v r hl (fun _ => none) (fun _ => none) _ _
    ⟨⟨⟨_, _, rfl⟩, (Heap.Ns.new s.heap (.type "frame")).keeps (pushCells_keeps _ _), fun b o e => pushCells_keeps _ _ b o (Heap.get?_push_of_some _ e), Nat.le_refl _⟩,
      fun n c hc => (ok.empty n c (mem_of_lookup hc)).1, ok.apart, fun n c hm => (ok.empty n c hm).2⟩
    hkind fun s' x ht => wpAny_pure (hQ _ rfl s' x ht))
end
/-- a def's body, a token out when it begins; its first parameter is a local -/
theorem fn_ofTC {CX : CXT} {P : Program} {w : World} {K : PySem.W.Frag} {mg : Str → Option Value} {base : Heap} {k : Nat} {f : Addr} {name qual : Str} {params : Arguments} {body : List Stmt} {scope : Scope} {dV kV doc pm cdv ct oc : Value} {an od : Option Addr}
    {osl : Array (Option Value)} {N ps : List Str} {x0 : Str} {sp : Sp} (lk : K.lookup f = some ⟨oc, od, .func (PySem.W.fnOf name qual params body scope dV kV doc pm an cdv ct), osl⟩) (hcd : PySem.W.codeIn K cdv qual = true) (S : FnScope N (x0 :: ps) scope)
    (h0 : scope.names.lookup x0 = some .local) (len : ∀ vs H Q E, sp vs H Q E → vs.length = (x0 :: ps).length)
    (hbody : ∀ (A : Around) (outer : List Env) (s : Shared) (H : Hp) (vs : List V) (Q : VK) (E : XK), Room k (A.deeper (envOfC qual scope s.heap.objs.size f cdv)) → sp vs H Q E →
      ∃ t, PSsT (cxOf CX P w K mg base N qual scope f cdv A outer s H E) body t ∧ t { nx := fun _ H' => Q .non H', rt := Q } (L2.start N vs) H) :
    FnOk P w K mg base CX (k + 1) f (PySem.W.fnOf name qual params body scope dV kV doc pm an cdv ct) (x0 :: ps) sp := by
  refine ⟨len, fun A outer s H args us vs Q E hr e0 hb r hsp => ?_⟩
  have hl := len _ _ _ _ hsp
  have KX : K.In s.heap := e0.mod.kin.keeps fun b o e => (e0.bs b o e).1
  have lim : s.heap.NoLimit := e0.mod.nolimit.keeps fun b o e => (e0.bs b o e).1
  have hul : us.length = (x0 :: ps).length := by rw [← r.length, hl]
  obtain ⟨u0, ur, rfl⟩ : ∃ u0 ur, us = u0 :: ur := by
    cases us with
    | nil => cases hul
    | cons a b => exact ⟨a, b, rfl⟩
  have hkind : ∀ y ∈ ps.zip ur, scope.names.lookup y.1 = some .local ∨ (scope.names.lookup y.1 = some .cell ∧ ((cellsFrom (s.heap.objs.size + 1) scope.names []).lookup y.1).isSome = true) := fun ⟨n, v⟩ hy => by
    rcases S.par n (List.mem_cons_of_mem _ (List.of_mem_zip hy).1) with q | q
    · exact .inl q
    · exact .inr ⟨q, PySem.W.cellsFrom_some _ _ _ (.inl q)⟩
  refine codeAny_call_function hr.depth (KX _ _ lk) rfl S.co S.gen rfl (PySem.W.codeRec_of KX hcd) (hb _ _ _ _ ?_)
  show wpAny _ _ (newFunctionEnv scope _ [] ((x0, u0) :: ps.zip ur) _ _ _ _ _) _ _ _
  refine newFunctionEnvT S.kind h0 hkind fun env he s1 x ht => ?_
  subst he
  refine ⟨lim.keeps x.toInCall.keep, codeAny_func ?_⟩
  obtain ⟨t, hT, hq⟩ := hbody A outer s H vs Q E (hr.deeper _) hsp
  have I : Inv (cxOf CX P w K mg base N qual scope f cdv A outer s H E) [] (L2.start N vs) H s1 := inv_start S hr.hd e0 hl r x
  refine wpAny_mono (hT [] s1 (L2.start N vs) H _ ht I hq) (fun fl s' hs => ?_) fun e s' hs => hs
  have fin : ∀ {σ' : L2.St} {H' : Hp} {v : V} {u : Value}, Inv (cxOf CX P w K mg base N qual scope f cdv A outer s H E) [] σ' H' s' → RelV v u → Q v H' → CE outer P w H s Q u s' :=
    fun {σ' H' v u} J rv q => ⟨v, H', J.os, J.bare, J.base, J.hok, rv, q⟩
  cases fl with
  | ret u =>
    obtain ⟨v, σ', H', J, rv, q⟩ := hs
    exact fin J rv q
  | next =>
    obtain ⟨σ', H', J, q⟩ := hs
    exact fin (v := V.non) (u := Value.none) J rfl q
  | brk =>
    obtain ⟨_, _, _, q⟩ := hs
    exact False.elim q
  | cont =>
    obtain ⟨_, _, _, q⟩ := hs
    exact False.elim q
/-! ### tests, calls, slices with a token out -/
section
variable {X : Cx}
def PTT (X : Cx) (e : Expr) (t : TT) : Prop := ∀ (pins : List (Addr × Obj)) (s : Shared) (σ : L2.St) (H : Hp) (Q : Bool → Hp → Prop), 1 ≤ s.toks → Inv X pins σ H s → t σ H Q → wpAny (model X.prog X.w) X.A (isTrue e X.env (eval e X.env)) (TP X pins σ Q) X.xe s
def PWT (X : Cx) (e : Expr) (t : TT) : Prop := ∀ (whole : Sem Value) (pins : List (Addr × Obj)) (s : Shared) (σ : L2.St) (H : Hp) (Q : Bool → Hp → Prop), 1 ≤ s.toks → Inv X pins σ H s → t σ H Q → wpAny (model X.prog X.w) X.A (isTrue e X.env whole) (TP X pins σ Q) X.xe s
theorem PWT.pt {e : Expr} {t : TT} (h : PWT X e t) : PTT X e t := h _
theorem ptt_val {e : Expr} {t : TE} (h : PET X e t) (he : ∀ whole, isTrue e X.env whole = (do let v ← whole; standAt e.pos; holding [v] (truthy v)) := by intro _; rfl) : PTT X e (tB t) := by
  intro pins s σ H Q ht I hw
  refine isTrue_plain (thn (h pins s σ H _ ht I hw) fun v s1 ⟨x, H1, I1, r1, q1⟩ => ?_) (he _)
  obtain ⟨d, rfl, q⟩ := q1
  cases r1
  exact wpAny_truthy_bool ⟨H1, I1, q⟩
theorem ptt_not {a : Expr} {tA : TT} {pos : Pos} (ha : PTT X a tA) : PTT X (.UnaryOp .Not a pos) (tNot tA) := by
  intro pins s σ H Q ht I h
  exact isTrue_not (ha pins s σ H (fun c H1 => Q (!c) H1) ht I h)
theorem pwt_or1 {a : Expr} {tA : TT} {pos : Pos} (ha : PTT X a tA) : PWT X (.BoolOp .Or [a] pos) tA := by
  intro wh pins s σ H Q ht I h
  refine isTrue_or (thn (ha pins s σ H Q ht I h) fun c s1 e => ?_)
  cases c with
  | false => exact isTrue_or_nil e
  | true => exact e
theorem pwt_or {a b : Expr} {rest : List Expr} {tA tB' : TT} {pos : Pos} (ha : PT X a tA) (hb : PWT X (.BoolOp .Or (b :: rest) pos) tB') : PWT X (.BoolOp .Or (a :: b :: rest) pos) (tOr tA tB') := by
  intro wh pins s σ H Q ht I h
  refine isTrue_or (wpAny_mono (wpAny_toks_of ht (ha.run pins s σ H _ I h)) (fun c s1 z => ?_) fun _ _ z => z.2)
  obtain ⟨ht1, H1, I1, q1⟩ := z
  cases c with
  | true => exact ⟨H1, I1, q1⟩
  | false => exact hb wh pins s1 σ H1 Q ht1 I1 q1
theorem pst_ifT {c : Expr} {a b : List Stmt} {tc : TT} {t u : TS} {pos : Pos} (hc : PTT X c tc) (ha : PSs X a t) (hb : PSs X b u) : PST X (.If c a b pos) (tIfS tc t u) := by
  intro pins s σ H D ht I h
  refine wpAny_If (thn (hc pins s σ H _ ht I h) fun d s1 ⟨H1, I1, q1⟩ => ?_)
  cases d with
  | true => exact ha.run pins s1 σ H1 D I1 q1
  | false => exact hb.run pins s1 σ H1 D I1 q1
theorem psst_s {st : Stmt} {rest : List Stmt} {t u : TS} (h1 : PS X st t) (h2 : PSsT X rest u) : PSsT X (st :: rest) (tSeq t u) := psst_cons (PST.of h1) h2
def noSt : Stmt := .Pass ⟨0, 0, 0, 0⟩
theorem drop_at : ∀ (l : List Stmt) (i : Nat), i < l.length → l.drop i = l.getD i noSt :: l.drop (i + 1)
  | [], i, h => absurd h (Nat.not_lt_zero _)
  | a :: l, 0, _ => rfl
  | a :: l, i + 1, h => drop_at l i (Nat.lt_of_succ_lt_succ h)
/-- PSsT behind a structure: a def that unfolds to a ∀ is walked by the elaborator after every application -/
structure PZ (X : Cx) (l : List Stmt) (t : TS) : Prop where
  run : PSsT X l t
structure PZ1 (X : Cx) (st : Stmt) (t : TS) : Prop where
  run : PST X st t
theorem PZ.of {l : List Stmt} {t : TS} (h : PSs X l t) : PZ X l t := ⟨PSsT.of h⟩
theorem pz_at1 {l : List Stmt} {i : Nat} {t u : TS} (h : i < l.length) (h1 : PZ1 X (l.getD i noSt) t) (h2 : PZ X (l.drop (i + 1)) u) : PZ X (l.drop i) (tSeq t u) := by
  refine ⟨?_⟩
  rw [drop_at l i h]
  exact psst_cons h1.run h2.run
theorem pz_at {l : List Stmt} {i : Nat} {t u : TS} (h : i < l.length) (h1 : PS X (l.getD i noSt) t) (h2 : PZ X (l.drop (i + 1)) u) : PZ X (l.drop i) (tSeq t u) := pz_at1 h ⟨PST.of h1⟩ h2
theorem pz_at0 {l : List Stmt} {t : TS} (h : PZ X (l.drop 0) t) : PZ X l t := h
theorem pz_ifT {c : Expr} {a b : List Stmt} {tc : TT} {t u : TS} {pos : Pos} (hc : PTT X c tc) (ha : PSs X a t) (hb : PSs X b u) : PZ1 X (.If c a b pos) (tIfS tc t u) := ⟨pst_ifT hc ha hb⟩
theorem pss_at {l : List Stmt} {i : Nat} {t u : TS} (h : i < l.length) (h1 : PS X (l.getD i noSt) t) (h2 : PSs X (l.drop (i + 1)) u) : PSs X (l.drop i) (tSeq t u) := by
  rw [drop_at l i h]
  exact pss_cons h1 h2
theorem pss_at0 {l : List Stmt} {t : TS} (h : PSs X (l.drop 0) t) : PSs X l t := h
theorem pet_slice {e : Expr} {te : TE} {lo hi : Option Expr} {tl th : TO} {p2 pos : Pos} {r : V → Option Int → Option Int → Hp → VK → Prop} (hr : SlR X r) (he : PET X e te) (hl : PO X lo tl) (hu : PO X hi th) : PET X (.Subscript e (.Slice lo hi none p2) pos) (tSl r te tl th) := by
  intro pins s σ H Q ht I h
  refine Subscript_ (thn (he pins s σ H _ ht I h) fun v s1 ⟨x, H1, I1, r1, q1⟩ => ?_)
  refine wpAny_Slice (thn (hl.run pins s1 σ H1 _ I1 q1) fun vl s2 ⟨l, H2, I2, pl, q2⟩ => thn (hu.run pins s2 σ H2 _ I2 q2) fun vu s3 ⟨u, H3, I3, pu, q3⟩ => ?_)
  rw [evalPart_none]
  refine wpAny_pure ?_
  have I4 : Inv X pins σ H3 { s3 with heap := s3.heap.push { cls := .type "slice", data := .fields #[vl, vu, .none] } } := I3.kept (t' := s3.toks) fun b ob q => Heap.get?_push_of_some _ q
  obtain ⟨T, id, hT, ht, hg⟩ := hr pins { s3 with heap := s3.heap.push { cls := .type "slice", data := .fields #[vl, vu, .none] } } σ H3 x v vl vu l u s3.heap.objs.size Q I4 r1 (Heap.IsSliceOf.new ..) pl pu q3
  show wpAny (model X.prog X.w) X.A (subscriptTail e (.Slice lo hi none p2) v (.ref s3.heap.objs.size)) (EP X pins σ Q) X.xe { s3 with heap := s3.heap.push { cls := .type "slice", data := .fields #[vl, vu, .none] } }
  exact tail_any (ops := [.ref s3.heap.objs.size, v]) ht hT hg (by with_unfolding_all rfl)
theorem pet_cal {x : Str} {ps : List Str} {sp : Sp} {k : Nat} {CX : CXT} {E : XK} {e : Expr} {es : List Expr} {t : TA} {p pos : Pos} (C : Cal X.prog X.w X.K X.mg X.base CX k x ps sp) (hr : Room k X.A) (hx : Passes CX X E) (ha : PAT X (e :: es) t) (hg : Gl X x := by rfl) (hdb : (x == ("__debug__" : Str)) = false := by decide)
    (hs : (e :: es).all nostar = true := by rfl) : PET X (.Call (.Name x p) (e :: es) [] pos) (tCall sp [] E t) := by
  obtain ⟨f, fd, g, kp, b, F⟩ := C.ex
  simp only [List.all_cons, Bool.and_eq_true] at hs
  intro pins s σ H Q ht I h
  refine wpAny_Call_Name_kw (ld_glob I hg g ?_ hdb)
  refine PySem.W.callWith_K (h₀ := X.base) I.ok.mod.kin kp (thn (ha pos pins s σ H _ ht I h) fun us s1 ⟨vs, H1, I1, r, q⟩ => ⟨I1.kIn, ?_⟩) (star_ok hs.1) (back_ok hs.2)
  exact run_fn F hr b .nil hx I1 r q
end
section
variable {P : Program} {w : World} {K : PySem.W.Frag} {mg : Str → Option Value} {base : Heap} {x x0 : Str} {st : Stmt} {N ps : List Str} {k : Nat} {sp : Sp}
theorem Src.calT (S : Src K mg x st) (sc : FnScope N (x0 :: ps) (defScope st)) (bn : BindP x st (x0 :: ps)) (h0 : (defScope st).names.lookup x0 = some .local) (len : ∀ vs H Q E, sp vs H Q E → vs.length = (x0 :: ps).length)
    (hbody : ∀ (f : Addr) (cdv : Value) (A : Around) (outer : List Env) (s : Shared) (H : Hp) (vs : List V) (Q : VK) (E : XK), Room k (A.deeper (envOfC x (defScope st) s.heap.objs.size f cdv)) → sp vs H Q E →
      ∃ t, PZ (cxOf CX0 P w K mg base N x (defScope st) f cdv A outer s H E) (defBody st) t ∧ t { nx := fun _ H' => Q .non H', rt := Q } (L2.start N vs) H) : Cal P w K mg base CX0 (k + 1) x (x0 :: ps) sp := by
  obtain ⟨f, fd, g, F⟩ := S
  refine ⟨f, fd, g, F.kp, F.bindsN bn, ?_⟩
  obtain ⟨oc, od, dV, kV, doc, pm, an, cdv, ct, osl, rfl, lk, hcd, _, _⟩ := F.ex
  exact fn_ofTC lk hcd sc h0 len fun A outer s H vs Q E hr hsp => by
    obtain ⟨t, h1, h2⟩ := hbody f cdv A outer s H vs Q E hr hsp
    exact ⟨t, h1.run, h2⟩
end
/-! ### the law's own def -/
section
variable {P : Program} {w : World} {K : PySem.W.Frag} {mg : Str → Option Value} {base : Heap} {x x0 : Str} {st : Stmt} {N ps : List Str} {k : Nat} {sp : Sp} {f : Addr} {fd : FuncData}
theorem lawT (F : FunD K x x (defArgs st) (defBody st) (defScope st) [] [] f fd) (sc : FnScope N (x0 :: ps) (defScope st)) (h0 : (defScope st).names.lookup x0 = some .local) (len : ∀ vs H Q E, sp vs H Q E → vs.length = (x0 :: ps).length)
    (hbody : ∀ (f : Addr) (cdv : Value) (A : Around) (outer : List Env) (s : Shared) (H : Hp) (vs : List V) (Q : VK) (E : XK), Room k (A.deeper (envOfC x (defScope st) s.heap.objs.size f cdv)) → sp vs H Q E →
      ∃ t, PZ (cxOf CX0 P w K mg base N x (defScope st) f cdv A outer s H E) (defBody st) t ∧ t { nx := fun _ H' => Q .non H', rt := Q } (L2.start N vs) H) : FnOk P w K mg base CX0 (k + 1) f fd (x0 :: ps) sp := by
  obtain ⟨oc, od, dV, kV, doc, pm, an, cdv, ct, osl, rfl, lk, hcd, _, _⟩ := F.ex
  exact fn_ofTC lk hcd sc h0 len fun A outer s H vs Q E hr hsp => by
    obtain ⟨t, h1, h2⟩ := hbody f cdv A outer s H vs Q E hr hsp
    exact ⟨t, h1.run, h2⟩
theorem law0 (F : FunD K x x (defArgs st) (defBody st) (defScope st) [] [] f fd) (sc : FnScope N ps (defScope st)) (len : ∀ vs H Q E, sp vs H Q E → vs.length = ps.length)
    (hbody : ∀ (f : Addr) (cdv : Value) (A : Around) (outer : List Env) (s : Shared) (H : Hp) (vs : List V) (Q : VK) (E : XK), Room k (A.deeper (envOfC x (defScope st) s.heap.objs.size f cdv)) → sp vs H Q E →
      ∃ t, PSs (cxOf CX0 P w K mg base N x (defScope st) f cdv A outer s H E).nox (defBody st) t ∧ t { nx := fun _ H' => Q .non H', rt := Q } (L2.start N vs) H) : FnOk P w K mg base CX0 (k + 1) f fd ps sp := by
  refine F.ok sc len fun cdv A outer s H vs Q E hr hsp => ?_
  obtain ⟨t, h, q⟩ := hbody f cdv A outer s H vs Q E hr hsp
  exact ⟨t, h.nox, q⟩
theorem cst_int {i : Int} (h : ∃ t, mg x = some (.int i t)) : Cst mg x (.int i) := by
  obtain ⟨t, h⟩ := h
  exact ⟨_, h, ⟨t, rfl⟩⟩
theorem cst_ref {a : Addr} (h : mg x = some (.ref a)) : Cst mg x (.ref a) := ⟨_, h, rfl⟩
theorem cst_str {z : Str} (h : ∃ t, mg x = some (.str z t)) : Cst mg x (.str z) := by
  obtain ⟨t, h⟩ := h
  exact ⟨_, h, ⟨t, rfl⟩⟩
end
end Fx
/-! for i, x in enumerate(t), t a tuple; a list or a tuple -/
namespace Fx
open PySem PySem.Spec PyProof.Rows L2
open AutoSeq1 (wpAny_loadPart')
theorem enum_newT (l : Addr) (items : Array Value) (n : Nat) (dct : Option Addr) (sl : Array (Option Value)) :
    Meets (Builtin.«enumerate.__new__» ⟨[.type "enumerate", .ref l], []⟩) (fun _ R s => s.heap.get? l = some { cls := .type "tuple", dict := dct, data := .seq items n, slots := sl } ∧
      R (.ok (.ret (.ref (s.heap.push { cls := .type "tuple_iterator", data := .fields #[.ref l, .int 0 0] }).objs.size)))
        { s with heap := (s.heap.push { cls := .type "tuple_iterator", data := .fields #[.ref l, .int 0 0] }).push { cls := .type "enumerate", data := .fields #[.none, .bool false, .ref s.heap.objs.size, rawInt 0, .none, .none] } }) :=
  .of_wp fun prog w A R s h => by
    obtain ⟨hp, g, d, tk, os⟩ := s
    obtain ⟨hl, h⟩ := h
    have hsub := sub_enumerate
    have hL : Heap.IsTuple (Shared.heap ⟨hp, g, d, tk, os⟩) l items := ⟨_, hl, rfl, n, rfl⟩
    wp_walk using wpAny_loadPart' hl
    refine wpAny_stack_any fun st => wpAny_pure ?_
    split
    · rename_i c _ _ _ _ _
      cases (c == Value.type "enumerate")
      · wp_walk using wpAny_loadPart' hl, wpAny_pyIter_tuple hL
        exact ⟨_, rfl, h⟩
      · wp_walk using wpAny_loadPart' hl, wpAny_pyIter_tuple hL
        exact ⟨_, rfl, h⟩
    · wp_walk using wpAny_loadPart' hl, wpAny_pyIter_tuple hL
      exact ⟨_, rfl, h⟩
theorem call_enumT {prog : Program} {w : World} {A : Around} {E : Value → Shared → Prop} {s : Shared} {l : Addr} {items : Array Value} {Q : Value → Shared → Prop} (hL : s.heap.IsTuple l items)
    (h : ∀ h', IsEnum h' (s.heap.objs.size + 1) s.heap.objs.size 0 .none → h'.IsTupleIter s.heap.objs.size l 0 → h'.objs.size = s.heap.objs.size + 2 →
      (∀ b o, s.heap.get? b = some o → h'.get? b = some o) → Q (.ref (s.heap.objs.size + 1)) { s with heap := h' }) :
    wpAny (model prog w) A (call (.type "enumerate") [.ref l]) Q E s := by
  obtain ⟨⟨c, dct, dt, sl⟩, hl, hc, n, hd⟩ := hL
  replace hc : c = .type "tuple" := hc
  replace hd : dt = .seq items n := hd
  subst hc hd
  refine callType_new F.called_enumerate (by decide) (F.typeCall_enumerate_1 _) (F.newCall_enumerate_1 _) (fun obj => F.args_object_init_2 obj _) F.entry_enumerate_new
    (enum_newT l items n dct sl) ⟨hl, ?_⟩
  have hz : (s.heap.push { cls := .type "tuple_iterator", data := .fields #[.ref l, .int 0 0] }).objs.size = s.heap.objs.size + 1 := Heap.size_push ..
  show _ ∧ _
  rw [hz]
  have he : IsEnum ((s.heap.push { cls := .type "tuple_iterator", data := .fields #[.ref l, .int 0 0] }).push
      { cls := .type "enumerate", data := .fields #[.none, .bool false, .ref s.heap.objs.size, rawInt 0, .none, .none] }) (s.heap.objs.size + 1) s.heap.objs.size 0 .none := by
    have := Heap.get?_push_size (s.heap.push { cls := .type "tuple_iterator", data := .fields #[.ref l, .int 0 0] })
      (o := { cls := .type "enumerate", data := .fields #[.none, .bool false, .ref s.heap.objs.size, rawInt 0, .none, .none] }) rfl
    rw [hz] at this
    exact this
  exact ⟨⟨_, he, rfl⟩, h _ he ⟨_, Heap.get?_push_of_some _ (Heap.get?_push_size _ rfl), rfl, rfl⟩ (by rw [Heap.size_push, hz]) fun b o x => Heap.get?_push_of_some _ (Heap.get?_push_of_some _ x)⟩
def IteT (K : PySem.W.Frag) (a : Addr) : It :=
  ⟨fun i H => ∃ (xs : List V) (x : V), SqT K H a xs ∧ xs[i]? = some x, fun i H v H' => ∃ T x, v = .ref T ∧ H T = none ∧ H' = upd H T (.tup [.int (i : Nat), x]) ∧ ∀ xs, SqT K H a xs → xs[i]? = some x, fun i H => ∃ xs : List V, SqT K H a xs ∧ xs.length = i⟩
theorem turn_enumT {P : Program} {w : World} {K : PySem.W.Frag} {elts : List Expr} {kk : Nat} {tpos : Pos} (a e it : Addr) :
    Turn P w K (.Tuple elts kk tpos) (IteT K a) [e, it] e (fun i h => (∃ old, IsEnum h e it ((i : Nat) : Int) old) ∧ h.IsTupleIter it a i ∧ e ≠ it ∧ a ≠ e ∧ a ≠ it) where
  mem := by simp
  obj := fun i h st b hb => by
    obtain ⟨⟨old, he⟩, ⟨o, ho, hc, hd⟩, _⟩ := st
    have e' : b = e ∨ b = it := by simpa using hb
    rcases e' with z | z
    · rw [z]
      exact ⟨_, he, fun v q => nomatch q⟩
    · rw [z]
      exact ⟨o, ho, fun v q => by rw [hd] at q; cases q⟩
  keep := fun i h h' st k => let ⟨⟨old, he⟩, ⟨o, ho, hr⟩, hne⟩ := st; ⟨⟨old, k e (by simp) _ he⟩, ⟨o, k it (by simp) o ho, hr⟩, hne⟩
  item := by
    intro X hP hw hK hc i pins s σ H E I hf st hg
    subst hP hw hK
    obtain ⟨⟨old, he⟩, hit, hne, hae, hai⟩ := st
    obtain ⟨xs, x, hq, hx⟩ := hg
    obtain ⟨its, rv, p, hz⟩ := I.tuple hq
    obtain ⟨u0, hu0, ru⟩ := rv.get hx
    have hel : e < s.heap.objs.size := Heap.lt_size he
    have hil : it < s.heap.objs.size := by obtain ⟨_, q, _⟩ := hit; exact Heap.lt_size q
    have D := Draws.tuple (prog := X.prog) (w := X.w) (A := X.A.in1) (show X.A.in1.handled = none from I.ok.hd hc) it a hai its.toArray
    have hin : i < its.toArray.size := by
      have := (List.getElem?_eq_some_iff.mp hu0).1
      simpa using this
    refine wpAny_pyNext_enum_itemD D he ⟨hit, p⟩ hin hne (by simp [hne, Ne.symm hae]) fun u h' tk hu ho hit' hT hsz hk => ?_
    have eu : u = u0 := by
      have h1 : its[i]? = some u := by simpa using hu
      rw [hu0] at h1
      exact (Option.some.inj h1).symm
    subst eu
    refine ⟨_, rfl, wpAny_letOwnedTupleGo_enum (s := { s with heap := h', toks := tk + 1 }) ho fun h'' he' sb => ?_⟩
    have hT2 : h''.get? s.heap.objs.size = some { cls := .type "tuple", data := .seq #[.int i tk, u] } := (sb.2 _ (Nat.ne_of_gt hel)).trans hT
    have new : ObjOk X.prog X.w (upd H s.heap.objs.size (.tup [.int (i : Nat), x])) h'' s.heap.objs.size (.tup [.int (i : Nat), x]) :=
      ⟨by show 2 ≤ sizeLine; decide, [.int i tk, u], .cons ⟨_, rfl⟩ (.cons ru .nil), ⟨_, hT2, rfl, _, rfl⟩⟩
    have I1 : Inv X pins σ (upd H s.heap.objs.size (.tup [.int (i : Nat), x])) { s with heap := h'', toks := tk + 1 } :=
      I.turnedNew (ch := [e, it]) (fun b ob hb q => (sb.2 b (fun z => hb (by simp [z]))).trans (hk b ob (fun z => hb (by simp [z])) (fun z => hb (by simp [z])) q)) hf (Nat.le_refl _) new
    refine ⟨.ref s.heap.objs.size, _, I1, rfl, ⟨_, x, rfl, I.hok.fresh (Nat.le_refl _), rfl, fun ys hy => by rw [I.tuple_inj hy hq]; exact hx⟩, ⟨⟨u, ?_⟩, ?_, hne, hae, hai⟩, fun b hb => ?_⟩
    · have e1 : ((i + 1 : Nat) : Int) = (i : Int) + 1 := by omega
      rw [e1]
      exact he'
    · obtain ⟨⟨o, ho2, hr⟩, _⟩ := hit'
      exact ⟨o, (sb.2 it (Ne.symm hne)).trans ho2, hr⟩
    · have hb' : b < s.heap.objs.size := by
        have e' : b = e ∨ b = it := by simpa using hb
        rcases e' with z | z
        · rw [z]; exact hel
        · rw [z]; exact hil
      rw [upd_ne (Nat.ne_of_lt hb')]
      exact (hf b hb).1
  done := by
    intro X hP hw hK hc i pins s σ H E I hf st hg
    subst hP hw hK
    obtain ⟨⟨old, he⟩, hit, hne, hae, hai⟩ := st
    obtain ⟨xs, hq, hx⟩ := hg
    obtain ⟨its, rv, p, hz⟩ := I.tuple hq
    obtain ⟨f0, f1, f2, f3, f4, f5⟩ := hf it (by simp)
    have hl := rv.length
    have D := Draws.tuple (prog := X.prog) (w := X.w) (A := X.A.in1) (show X.A.in1.handled = none from I.ok.hd hc) it a hai its.toArray
    have hi : i = its.toArray.size := by
      rw [List.size_toArray]
      omega
    subst hi
    exact wpAny_pyNext_enum_endD D he ⟨hit, p⟩ fun h' eb => ⟨rfl, I.turned (t' := s.toks) (fun b o hb q => eb b o hb q) f0 f1 f3 f4 f5⟩
  self := fun A i s Q E st h => let ⟨⟨_, he⟩, _⟩ := st; wpAny_pyIter_enum he h
def iEnumT (K : PySem.W.Frag) (ta : TA) : TI := fun σ H R => ta σ H fun vs H1 => ∃ a xs, vs = [.ref a] ∧ SqT K H1 a xs ∧ R (IteT K a) H1
section
variable {X : Cx} {e : Expr} {ta : TA} {p pos tpos : Pos} {elts : List Expr} {kk : Nat}
theorem pi_enumT (hg : Gl X "enumerate") (hm : X.mg "enumerate" = none) (ha : PA X [e] ta) (hs : starEach [e] X.env = [(false, eval e X.env)] := by rfl) :
    PI X (.Tuple elts kk tpos) (.Call (.Name "enumerate" p) [e] [] pos) (iEnumT X.K ta) := by
  refine ⟨fun pins s σ H R I h => ?_⟩
  refine Call_ (ld_blt I hg hm boot_enumerate (PyProof.Rows.callWith_type1 (thn (ha.run pos pins s σ H _ I h) fun us s1 ⟨vs, H1, I1, r1, q1⟩ => ?_) hs rfl))
  obtain ⟨a, xs, ex, hq, q⟩ := q1
  subst ex
  cases r1 with
  | cons r rr =>
    cases rr
    cases r
    obtain ⟨its, rv, p', hz⟩ := I1.tuple hq
    have hla : a < s1.heap.objs.size := by
      obtain ⟨o, ho, _⟩ := p'
      exact Heap.lt_size ho
    refine call_enumT p' fun h' he hit hsz hk => wpAny_pyIter_enum he ?_
    have I2 : Inv X pins σ H1 { s1 with heap := h' } := I1.kept (t' := s1.toks) hk
    refine ⟨s1.heap.objs.size + 1, [s1.heap.objs.size + 1, s1.heap.objs.size], _, _, H1, rfl, I2, turn_enumT a (s1.heap.objs.size + 1) s1.heap.objs.size, ⟨⟨.none, he⟩, hit, Nat.succ_ne_self _, Nat.ne_of_lt (Nat.lt_succ_of_lt hla), Nat.ne_of_lt hla⟩, fun b hb => ?_, q⟩
    have e' : b = s1.heap.objs.size + 1 ∨ b = s1.heap.objs.size := by simpa using hb
    have hle : s1.heap.objs.size ≤ b := by
      rcases e' with z | z
      · rw [z]; exact Nat.le_add_right _ _
      · rw [z]; exact Nat.le_refl _
    exact I1.fpOk hle (I1.hok.fresh hle)
/-- a list or a tuple -/
def iEnumQ (K : PySem.W.Frag) (ta : TA) : TI := fun σ H R => iEnum K ta σ H R ∨ iEnumT K ta σ H R
theorem pi_enumQ (hg : Gl X "enumerate") (hm : X.mg "enumerate" = none) (ha : PA X [e] ta) (hs : starEach [e] X.env = [(false, eval e X.env)] := by rfl) :
    PI X (.Tuple elts kk tpos) (.Call (.Name "enumerate" p) [e] [] pos) (iEnumQ X.K ta) := by
  refine ⟨fun pins s σ H R I h => ?_⟩
  rcases h with h | h
  · exact (pi_enum hg hm ha hs).run pins s σ H R I h
  · exact (pi_enumT hg hm ha hs).run pins s σ H R I h
def iQ (K : PySem.W.Frag) (tl : TE) : TI := fun σ H R => iList K tl σ H R ∨ iTup K tl σ H R
theorem pi_Q {tg l : Expr} {tl : TE} (hl : PE X l tl) : PI X tg l (iQ X.K tl) := by
  refine ⟨fun pins s σ H R I h => ?_⟩
  rcases h with h | h
  · exact (pi_list hl).run pins s σ H R I h
  · exact (pi_tup hl).run pins s σ H R I h
end
/-- a list or a tuple that stands in the tracked heap -/
def Sq (H : Hp) (p : Addr) (xs : List V) : Prop := H p = some (.lst xs) ∨ H p = some (.tup xs)
theorem Sq.same {H H' : Hp} {p : Addr} {xs : List V} (h : Sq H p xs) (s : Same H H') : Sq H' p xs := by
  rcases h with h | h
  · exact .inl (s _ _ h)
  · exact .inr (s _ _ h)
section
variable {X : Cx}
def rIxQ : R2 := fun x y H Q => ∃ p i xs, x = .ref p ∧ y = .int i ∧ Sq H p xs ∧ ∃ v, atI xs i = some v ∧ Q v H
theorem ix_Q : IxR X rIxQ := by
  have h1 : IxR X rIxLt := ix_L
  have h2 : IxR X rIxTt := ix_T
  intro ve se pins s σ H x y v u Q I rx ry h hs
  obtain ⟨p, i, xs, e1, e2, hq, w, hw, q⟩ := h
  rcases hq with hq | hq
  · exact h1 ve se pins s σ H x y v u Q I rx ry ⟨p, i, xs, e1, e2, hq, w, hw, q⟩ hs
  · exact h2 ve se pins s σ H x y v u Q I rx ry ⟨p, i, xs, e1, e2, hq, w, hw, q⟩ hs
def rLenQ : List V → Hp → VK → Prop := fun vs H Q => ∃ p xs, vs = [.ref p] ∧ Sq H p xs ∧ Q (.int (xs.length : Nat)) H
theorem len_Q : CallR X (.builtin "len") rLenQ := CallR.imp call_len_seq fun vs H Q ⟨p, ys, e, h, q⟩ => ⟨p, ys, e, h.elim (fun h => .inl (.inl (.inl h))) (fun h => .inr (.inl (.inl h))), q⟩
def rTupQ : List V → Hp → VK → Prop := fun vs H Q => ∃ p xs, vs = [.ref p] ∧ Sq H p xs ∧ ∀ l H', Same H H' → H' l = some (.tup xs) → Q (.ref l) H'
theorem tup_Q : CallR X (.type "tuple") rTupQ := CallR.imp call_tuple_of fun vs H Q ⟨p, ys, e, h, q⟩ => ⟨p, ys, e, h.elim (fun h => .inl ⟨.inl (.inl h), fun l nl => q l _ (same_new nl) upd_same⟩) (fun h => .inr ⟨.inl (.inl h), q p H (Same.refl H) h⟩)⟩
def rTupL : List V → Hp → VK → Prop := fun vs H Q => ∃ p xs, vs = [.ref p] ∧ H p = some (.lst xs) ∧ ∀ l, H l = none → Q (.ref l) (upd H l (.tup xs))
theorem tup_L : CallR X (.type "tuple") rTupL := CallR.imp call_tuple_of fun vs H Q ⟨p, ys, e, h, q⟩ => ⟨p, ys, e, .inl ⟨.inl (.inl h), q⟩⟩
end
/-- the loop over enumerate(a list or a tuple) -/
theorem for_enumQ {K : PySem.W.Frag} {ta : TA} {a : Addr} {xs : List V} {g : TG} {tb : TS} {D : Ends} {σ : L2.St} {H : Hp} (hta : ∀ Q : List V → Hp → Prop, Q [.ref a] H → ta σ H Q) (hq : Sq H a xs) (Pv : Nat → L2.St → Hp → Prop) (h0 : Pv 0 σ H)
    (hl : ∀ i σ H', Pv i σ H' → ∀ o, H a = some o → H' a = some o)
    (hs : ∀ i x T σ H, xs[i]? = some x → Pv i σ H → H T = none → g (.ref T) σ (upd H T (.tup [.int (i : Nat), x])) fun σ' H' => tb { D with nx := Pv (i + 1), ct := Pv (i + 1), bk := D.nx } σ' H')
    (hd : ∀ σ H, Pv xs.length σ H → D.nx σ H) : tFor (iEnumQ K ta) g tb D σ H := by
  rcases hq with hq | hq
  · refine .inl (hta _ ⟨a, xs, rfl, .inl (.inl hq), ?_⟩)
    refine ⟨fun i m σ H' => m = xs.length - i ∧ i ≤ xs.length ∧ Pv i σ H', ⟨_, rfl, Nat.zero_le _, h0⟩, ?_⟩
    rintro i m σ H' ⟨rfl, hi, p⟩
    have hk : SqL K H' a xs := .inl (.inl (hl i σ H' p _ hq))
    by_cases hlt : i < xs.length
    · refine .inr ⟨⟨xs, xs[i], hk, by simp [hlt]⟩, fun σ' H' => Pv (i + 1) σ' H', fun σ' H' q => ⟨xs.length - (i + 1), by omega, rfl, hlt, q⟩, fun x H2 hy => ?_⟩
      obtain ⟨T, c, rfl, nT, rfl, hc⟩ := hy
      exact hs i c T σ H' (hc xs hk) p nT
    · have ei : i = xs.length := by omega
      subst ei
      exact .inl ⟨⟨xs, hk, Nat.le_refl _⟩, hd σ H' p⟩
  · refine .inr (hta _ ⟨a, xs, rfl, .inl (.inl hq), ?_⟩)
    refine ⟨fun i m σ H' => m = xs.length - i ∧ i ≤ xs.length ∧ Pv i σ H', ⟨_, rfl, Nat.zero_le _, h0⟩, ?_⟩
    rintro i m σ H' ⟨rfl, hi, p⟩
    have hk : SqT K H' a xs := .inl (.inl (hl i σ H' p _ hq))
    by_cases hlt : i < xs.length
    · refine .inr ⟨⟨xs, xs[i], hk, by simp [hlt]⟩, fun σ' H' => Pv (i + 1) σ' H', fun σ' H' q => ⟨xs.length - (i + 1), by omega, rfl, hlt, q⟩, fun x H2 hy => ?_⟩
      obtain ⟨T, c, rfl, nT, rfl, hc⟩ := hy
      exact hs i c T σ H' (hc xs hk) p nT
    · have ei : i = xs.length := by omega
      subst ei
      exact .inl ⟨⟨xs, hk, rfl⟩, hd σ H' p⟩
section
variable {X : Cx}
theorem shaped_flatT {xs : List V} (hx : xs.all isF = true) : SeqAt.shaped (.tuple (xs.map datV)) = true := by
  obtain ⟨h1, h2⟩ := lay_flat hx
  simp [SeqAt.shaped, PyData.canLay0, PyData.depth, h1, h2]
def rNeL : R2 := fun x y H Q => ∃ p q xs ys, x = .ref p ∧ y = .ref q ∧ H p = some (.lst xs) ∧ H q = some (.lst ys) ∧ xs.all isF = true ∧ ys.all isF = true ∧ Q (.bl (!decide (xs = ys))) H
def rNeT : R2 := fun x y H Q => ∃ p q xs ys, x = .ref p ∧ y = .ref q ∧ H p = some (.tup xs) ∧ H q = some (.tup ys) ∧ xs.all isF = true ∧ ys.all isF = true ∧ Q (.bl (!decide (xs = ys))) H
def rEqT : R2 := fun x y H Q => ∃ p q xs ys, x = .ref p ∧ y = .ref q ∧ H p = some (.tup xs) ∧ H q = some (.tup ys) ∧ xs.all isF = true ∧ ys.all isF = true ∧ Q (.bl (decide (xs = ys))) H
theorem ne_LL (hu : X.A.units + 64 < cLine) : OpR X (compareOp .NotEq) rNeL := by
  intro pins s σ H x y v u Q I rx ry h
  obtain ⟨p, q, xs, ys, rfl, rfl, hp, hq, fx, fy, k⟩ := h
  refine op_neD hu pins s σ H _ _ v u Q I rx ry ⟨.list (xs.map datV), .list (ys.map datV), .lst (.inl (.inl hp)) (dpAll_dat fx), .lst (.inl (.inl hq)) (dpAll_dat fy), shaped_flat fx, shaped_flat fy, ?_⟩
  rw [PyData.eqv, eqvAll_dat fx fy]
  exact k
theorem ne_TT (hu : X.A.units + 64 < cLine) : OpR X (compareOp .NotEq) rNeT := by
  intro pins s σ H x y v u Q I rx ry h
  obtain ⟨p, q, xs, ys, rfl, rfl, hp, hq, fx, fy, k⟩ := h
  refine op_neD hu pins s σ H _ _ v u Q I rx ry ⟨.tuple (xs.map datV), .tuple (ys.map datV), .tup (.inl (.inl hp)) (dpAll_dat fx), .tup (.inl (.inl hq)) (dpAll_dat fy), shaped_flatT fx, shaped_flatT fy, ?_⟩
  rw [PyData.eqv, eqvAll_dat fx fy]
  exact k
theorem eq_TT (hu : X.A.units + 64 < cLine) : OpR X (compareOp .Eq) rEqT := by
  intro pins s σ H x y v u Q I rx ry h
  obtain ⟨p, q, xs, ys, rfl, rfl, hp, hq, fx, fy, k⟩ := h
  refine op_eqD hu pins s σ H _ _ v u Q I rx ry ⟨.tuple (xs.map datV), .tuple (ys.map datV), .tup (.inl (.inl hp)) (dpAll_dat fx), .tup (.inl (.inl hq)) (dpAll_dat fy), shaped_flatT fx, shaped_flatT fy, ?_⟩
  rw [PyData.eqv, eqvAll_dat fx fy]
  exact k
theorem all_int (ns : List Int) : (ns.map V.int).all isF = true := by simp [isF]
theorem map_int_inj {a b : List Int} : a.map V.int = b.map V.int ↔ a = b := by
  constructor
  · intro h
    induction a generalizing b with
    | nil => cases b with
      | nil => rfl
      | cons y b => cases h
    | cons x a ih => cases b with
      | nil => cases h
      | cons y b =>
        simp only [List.map_cons, List.cons.injEq, V.int.injEq] at h
        rw [h.1, ih h.2]
  · intro h
    rw [h]
/-- len of a list or a tuple -/
def rMin2 : List V → Hp → VK → Prop := fun xs H Q => ∃ i j, xs = [.int i, .int j] ∧ Q (.int (if j < i then j else i)) H
theorem min_2 (hc : X.calm = true) : CallR X (.builtin "min") rMin2 := call_min2 hc
def rAnd255 : R2 := fun x y H Q => ∃ i : Int, x = .int i ∧ y = .int 255 ∧ Q (.int (i % 256)) H
theorem and_255 {X : Cx} : OpR X (binaryOp .BitAnd) rAnd255 := by
  intro pins s σ H x y v u Q I rx ry h
  obtain ⟨i, rfl, rfl, q⟩ := h
  exact op_andM pins s σ H _ _ v u Q I rx ry ⟨i, 8, rfl, rfl, q⟩
def rNonIs : R2 := fun x y H Q => y = .non ∧ Q (.bl (decide (x = .non))) H
theorem op_isNon : OpR X (compareOp .Is) rNonIs := op_isN
def rNonNot : R2 := fun x y H Q => y = .non ∧ Q (.bl (!decide (x = .non))) H
theorem op_notNon : OpR X (compareOp .IsNot) rNonNot := op_notN
def rIns : V → List V → Hp → VK → Prop := fun x vs H Q => ∃ (l : Addr) (xs : List V) (i : Int) (y : V), x = .ref l ∧ vs = [.int i, y] ∧ H l = some (.lst xs) ∧ xs.length < sizeLine ∧ 0 ≤ i ∧ i < 2 ^ 63 ∧ Q .non (upd H l (.lst (xs.take i.toNat ++ [y] ++ xs.drop i.toNat)))
theorem mt_ins : MtR X "list.insert" rIns := mt_insert
open AutoSeq1 in
theorem extend_tuple (l : Addr) (items : Array Value) (n : Nat) (b : Addr) (items2 : Array Value) (n2 : Nat) (dct : Option Addr) (sl : Array (Option Value)) (hs0 : ¬(!items.isEmpty && Builtin.List.listTooLong (items.size + items2.size)) = true) (hs1 : items.size ≤ sizeLine) (hs2 : items.size + items2.size ≤ sizeLine + 1) :
    Meets (Builtin.«list.extend» ⟨[.ref l, .ref b], []⟩) (fun _ R s => s.heap.get? l = some { cls := .type "list", dict := none, data := .seq items n, slots := #[] } ∧ s.heap.get? b = some { cls := .type "tuple", dict := dct, data := .seq items2 n2, slots := sl } ∧ R (.ok (.ret Value.none)) { s with heap := s.heap.update l (Obj.mapSeq fun x => x ++ items2), toks := s.toks }) :=
  .of_wp fun prog w A R s h => by
    obtain ⟨hp, g, d, tk, os⟩ := s
    obtain ⟨hl, hb, h⟩ := h
    have f1 := idx_int
    have f2 := AutoSeq1.sub_tuple_tuple
    have f3 := AutoSeq1.sub_list_list
    have f4 := AutoSeq1.sub_tuple_list
    have f5 := AutoSeq1.sub_list_tuple
    have hz' : (items ++ items2).size ≤ sizeLine + 1 := by rw [Array.size_append]; exact hs2
    wp_walk using (wpAny_updateSeq hl rfl (hz := hs1) (_hz' := hz')), wpAny_loadPart' hl, wpAny_loadPart' hb
    exact ⟨_, rfl, h⟩
def rExtQ : V → List V → Hp → VK → Prop := fun x vs H Q => ∃ l b xs zs, x = .ref l ∧ vs = [.ref b] ∧ H l = some (.lst xs) ∧ Sq H b zs ∧ xs.length + zs.length ≤ sizeLine ∧ Q .non (upd H l (.lst (xs ++ zs)))
theorem mt_extQ : MtM X "list.extend" rExtQ := by
  intro pins s σ H x vs v us Q I rx rv h
  obtain ⟨l, b, xs, zs, rfl, rfl, hH, hB, hz, q⟩ := h
  rcases hB with hB | hB
  · exact mt_extend pins s σ H _ _ v us Q I rx rv ⟨l, b, xs, zs, rfl, rfl, hH, hB, hz, q⟩
  cases rx
  obtain ⟨u, rfl, ru⟩ := rv.one
  cases ru
  obtain ⟨z, its, n, r, hl, e⟩ := I.lstM hH
  obtain ⟨its2, r2, ⟨⟨c2, d2, dt2, sl2⟩, e2, hc2, n2, hd2⟩, hz2⟩ := I.tuple (.inl (.inl hB))
  have hl2 := r2.length
  replace hc2 : c2 = .type "tuple" := hc2
  replace hd2 : dt2 = .seq its2.toArray n2 := hd2
  subst hc2 hd2
  have hsz : its.toArray.size + its2.toArray.size ≤ sizeLine := by rw [List.size_toArray, List.size_toArray]; omega
  have hlong : ¬ (!its.toArray.isEmpty && Builtin.List.listTooLong (its.toArray.size + its2.toArray.size)) = true := by
    rw [notLongL hsz, Bool.and_false]
    exact Bool.false_ne_true
  refine call_meets F.slot_list_extend ⟨_, e, rfl⟩ F.entry_list_extend (F.args_list_extend_2 _ _)
    (extend_tuple l its.toArray n b its2.toArray n2 d2 sl2 hlong (by rw [List.size_toArray]; omega) (by omega)) ⟨e, e2, ?_⟩
  refine ⟨.non, _, I.lset (its' := its ++ its2) hH e (by simp) (r.append r2) ?_, rfl, q⟩
  rw [List.length_append]
  omega
def rSlQ : V → Option Int → Option Int → Hp → VK → Prop := fun x lo hi H Q => ∃ a xs, x = .ref a ∧ Sq H a xs ∧ ∀ p H', Same H H' → Sq H' p (cutV xs lo hi) → Q (.ref p) H'
theorem sl_Q : SlR X rSlQ := by
  intro pins s σ H x v vl vu lo hi sl Q I rx hs pl pu h
  obtain ⟨a, xs, rfl, hx, q⟩ := h
  rcases hx with hx | hx
  · exact sl_L pins s σ H _ v vl vu lo hi sl Q I rx hs pl pu ⟨a, xs, rfl, hx, fun p np => q p _ (same_new np) (.inl upd_same)⟩
  · refine sl_tupA pins s σ H _ v vl vu lo hi sl Q I rx hs pl pu ⟨a, xs, rfl, .inl (.inl hx), fun hw => ?_, fun _ p np => q p _ (same_new np) (.inr upd_same)⟩
    have e : cutV xs lo hi = xs := by
      unfold cutV
      rw [hw.1, hw.2]
      simp
    exact q a H (Same.refl H) (by rw [e]; exact .inr hx)
end
end Fx
/-! Own classes: attribute targets, methods by promise; defs that know that no repr is under way (FnG) -/
namespace Fx
open PySem PySem.Spec PyProof.Rows L2
section
variable {X : Cx} {o : Expr} {to : TE} {f : Str} {pos : Pos}
/-- .. , o.f, .. = value -/
def gFld (K : PySem.W.Frag) (to : TE) (f : Str) : TG := fun v σ H Q => to σ H fun x H1 => ∃ a C dx fs, x = .ref a ∧ H1 a = some (.ins C dx fs) ∧ Cls K C ∧ NoAttr K C f ∧ fs.length < 1000 ∧ Q σ (upd H1 a (.ins C dx (putF f v fs)))
theorem pg_fld (ho : PE X o to) : PG X (.Attribute o f pos) (gFld X.K to f) := by
  refine ⟨fun pins s σ H v u Q I r h => ?_⟩
  rw [assign_Attribute]
  refine wpAny_bind (wpAny_holding (thn (ho.run pins s σ H _ I h) fun ov s1 ⟨x, H1, I1, r1, a, C, dx, fs, ex, ea, c, n, l, q⟩ => ?_))
  subst ex
  obtain rfl : ov = Value.ref a := r1
  refine wpAny_bind (wpAny_standAt (wpAny_bind (wpAny_holding (setattr_ok I1 ea c n l r fun s3 I3 => ?_))))
  exact wpAny_release ⟨σ, _, I3, q⟩
end
/-! ### methods, makers -/
structure CalM (P : Program) (w : World) (K : PySem.W.Frag) (mg : Str → Option Value) (base : Heap) (CX : CXT) (k : Nat) (C : Addr) (m : Str) (ps : List Str) (sp : Sp) : Prop where
  ex : ∃ f fd, Meth K C m f ∧ Binds K fd ps [] ∧ FnOk P w K mg base CX k f fd ps sp
structure CalI (P : Program) (w : World) (K : PySem.W.Frag) (mg : Str → Option Value) (base : Heap) (CX : CXT) (k : Nat) (C : Addr) (ps : List Str) (sp : Sp) : Prop where
  ex : ∃ f fd, Mk K C f ∧ Binds K fd ps [] ∧ FnOk P w K mg base CX k f fd ps sp
section
variable {X : Cx} {x : Str} {C : Addr} {ps : List Str} {sp : Sp} {k : Nat} {CX : CXT} {E : XK} {e : Expr} {es : List Expr} {t : TA} {p pos : Pos}
/-- C(e, ..) -/
theorem pe_mk (M : CalI X.prog X.w X.K X.mg X.base CX k C ps sp) (hr : Room (k + 1) X.A) (hm : X.mg x = some (.ref C)) (hx : Passes CX X E) (ha : PA X (e :: es) t) (hg : Gl X x := by rfl) (hdb : (x == ("__debug__" : Str)) = false := by decide)
    (hs : (e :: es).all nostar = true := by rfl) : PE X (.Call (.Name x p) (e :: es) [] pos) (tMake C sp [] E t) := by
  obtain ⟨f, fd, m, b, F⟩ := M.ex
  simp only [List.all_cons, Bool.and_eq_true] at hs
  exact pe_make m F hr hg hm b .nil hx ha hdb (star_ok hs.1) (back_ok hs.2)
end
/-! ### a method's body -/
abbrev BindQ (x q : Str) (st : Stmt) (ps : List Str) : Prop := ∀ (kV doc pm : Value) (an : Option Addr) (cdv ct : Value) (us : List Value), us.length = ps.length → bindArgs (PySem.W.fnOf x q (defArgs st) (defBody st) (defScope st) .none kV doc pm an cdv ct) ⟨us, []⟩ = pure (ps.zip us)
section
variable {P : Program} {w : World} {K : PySem.W.Frag} {mg : Str → Option Value} {base : Heap} {x qual : Str} {st : Stmt} {N ps : List Str} {k : Nat} {sp : Sp} {f : Addr} {fd : FuncData}
theorem ok0 (F : FunD K x qual (defArgs st) (defBody st) (defScope st) [] [] f fd) (sc : FnScope N ps (defScope st)) (len : ∀ vs H Q E, sp vs H Q E → vs.length = ps.length)
    (hbody : ∀ (f : Addr) (cdv : Value) (A : Around) (outer : List Env) (s : Shared) (H : Hp) (vs : List V) (Q : VK) (E : XK), Room k (A.deeper (envOfC qual (defScope st) s.heap.objs.size f cdv)) → sp vs H Q E →
      ∃ t, PSs (cxOf CX0 P w K mg base N qual (defScope st) f cdv A outer s H E).nox (defBody st) t ∧ t { nx := fun _ H' => Q .non H', rt := Q } (L2.start N vs) H) : FnOk P w K mg base CX0 (k + 1) f fd ps sp := by
  refine F.ok sc len fun cdv A outer s H vs Q E hr hsp => ?_
  obtain ⟨t, h, q⟩ := hbody f cdv A outer s H vs Q E hr hsp
  exact ⟨t, h.nox, q⟩
theorem okX (F : FunD K x qual (defArgs st) (defBody st) (defScope st) [] [] f fd) (sc : FnScope N ps (defScope st)) (len : ∀ vs H Q E, sp vs H Q E → vs.length = ps.length)
    (hbody : ∀ (f : Addr) (cdv : Value) (A : Around) (outer : List Env) (s : Shared) (H : Hp) (vs : List V) (Q : VK) (E : XK), Room k (A.deeper (envOfC qual (defScope st) s.heap.objs.size f cdv)) → sp vs H Q E →
      ∃ t, PSs (cxOf (L2.CX P w) P w K mg base N qual (defScope st) f cdv A outer s H E) (defBody st) t ∧ t { nx := fun _ H' => Q .non H', rt := Q } (L2.start N vs) H) : FnOk P w K mg base (L2.CX P w) (k + 1) f fd ps sp :=
  F.ok sc len fun cdv A outer s H vs Q E hr hsp => hbody f cdv A outer s H vs Q E hr hsp
end
/-! ### no repr is under way: guards = some [] -/
structure FnG (P : Program) (w : World) (K : PySem.W.Frag) (mg : Str → Option Value) (base : Heap) (CX : CXT) (k : Nat) (f : Addr) (fd : FuncData) (ps : List Str) (sp : Sp) : Prop where
  len : ∀ vs H Q E, sp vs H Q E → vs.length = ps.length
  run : ∀ (A : Around) (outer : List Env) (s : Shared) (H : Hp) (args : Args) (us : List Value) (vs : List V) (Q : VK) (E : XK), A.guards = some [] → Room k A → Env0 P w K mg base A outer s H → BindsTo s fd args (ps.zip us) → Vals vs us → sp vs H Q E →
    codeAny (model P w) A (.call (.ref f) args) (CR CX outer P w H s Q E) s
section
variable {P : Program} {w : World} {K : PySem.W.Frag} {mg : Str → Option Value} {base : Heap} {CX : CXT} {k : Nat} {f : Addr} {fd : FuncData} {N ps : List Str} {sp : Sp}
theorem FnG.of (F : FnOk P w K mg base CX k f fd ps sp) : FnG P w K mg base CX k f fd ps sp := ⟨F.len, fun A outer s H args us vs Q E _ hr e0 hb hv hs => F.run A outer s H args us vs Q E hr e0 hb hv hs⟩
/-- a def whose body may use that no repr is under way -/
theorem fn_ofG {name qual : Str} {params : Arguments} {body : List Stmt} {scope : Scope} {dV kV doc pm cdv ct oc : Value} {an od : Option Addr} {osl : Array (Option Value)}
    (lk : K.lookup f = some ⟨oc, od, .func (PySem.W.fnOf name qual params body scope dV kV doc pm an cdv ct), osl⟩) (hcd : PySem.W.codeIn K cdv qual = true) (S : FnScope N ps scope) (len : ∀ vs H Q E, sp vs H Q E → vs.length = ps.length)
    (hbody : ∀ (A : Around) (outer : List Env) (s : Shared) (H : Hp) (vs : List V) (Q : VK) (E : XK), A.guards = some [] → Room k (A.deeper (envOfC qual scope s.heap.objs.size f cdv)) → sp vs H Q E →
      ∃ t, PSs (cxOf CX P w K mg base N qual scope f cdv A outer s H E) body t ∧ t { nx := fun _ H' => Q .non H', rt := Q } (L2.start N vs) H) :
    FnG P w K mg base CX (k + 1) f (PySem.W.fnOf name qual params body scope dV kV doc pm an cdv ct) ps sp := by
  constructor
  · exact len
  intro A outer s H args us vs Q E hG hr e0 hb r hsp
  have hl := len _ _ _ _ hsp
  have kin : K.In s.heap := e0.mod.kin.keeps fun b o e => (e0.bs b o e).1
  have nol : s.heap.NoLimit := e0.mod.nolimit.keeps fun b o e => (e0.bs b o e).1
  have kinds : ∀ y ∈ ps.zip us, scope.names.lookup y.1 = some .local ∨ (scope.names.lookup y.1 = some .cell ∧ ((cellsFrom (s.heap.objs.size + 1) scope.names []).lookup y.1).isSome = true) := by
    rintro ⟨n, v⟩ hy
    rcases S.par n (List.of_mem_zip hy).1 with q | q
    · left; exact q
    · right; exact ⟨q, PySem.W.cellsFrom_some _ _ _ (.inl q)⟩
  refine codeAny_call_function hr.depth (kin _ _ lk) rfl S.co S.gen rfl (PySem.W.codeRec_of kin hcd) (hb _ _ _ _ (wpAny_newFunctionEnv_cells S.kind kinds fun env he s1 x => ?_))
  subst he
  refine ⟨nol.keeps x.toInCall.keep, codeAny_func ?_⟩
  obtain ⟨t, ht, hq⟩ := hbody A outer s H vs Q E hG (hr.deeper _) hsp
  refine wpAny_mono (ht.run [] s1 (L2.start N vs) H _ (inv_start S hr.hd e0 hl r x) hq) (fun fl s' hs => ?_) fun e s' hs => hs
  have done : ∀ {σ' : L2.St} {H' : Hp} {v : V} {u : Value}, Inv (cxOf CX P w K mg base N qual scope f cdv A outer s H E) [] σ' H' s' → RelV v u → Q v H' → CE outer P w H s Q u s' := by
    intro σ' H' v u J rv q
    exact ⟨v, H', J.os, J.bare, J.base, J.hok, rv, q⟩
  cases fl with
  | ret u => obtain ⟨v, σ', H', J, rv, q⟩ := hs; exact done J rv q
  | next => obtain ⟨σ', H', J, q⟩ := hs; exact done (v := V.non) (u := Value.none) J rfl q
  | brk => obtain ⟨_, _, _, q⟩ := hs; exact q.elim
  | cont => obtain ⟨_, _, _, q⟩ := hs; exact q.elim
end
structure CalG (P : Program) (w : World) (K : PySem.W.Frag) (mg : Str → Option Value) (base : Heap) (CX : CXT) (k : Nat) (x : Str) (ps : List Str) (sp : Sp) : Prop where
  ex : ∃ f fd, mg x = some (.ref f) ∧ PySem.W.keepIn K (.ref f) = true ∧ Binds K fd ps [] ∧ FnG P w K mg base CX k f fd ps sp
section
variable {P : Program} {w : World} {K : PySem.W.Frag} {mg : Str → Option Value} {base : Heap} {x : Str} {st : Stmt} {N ps : List Str} {k : Nat} {sp : Sp} {f : Addr} {fd : FuncData}
theorem lawG (F : FunD K x x (defArgs st) (defBody st) (defScope st) [] [] f fd) (sc : FnScope N ps (defScope st)) (len : ∀ vs H Q E, sp vs H Q E → vs.length = ps.length)
    (hbody : ∀ (f : Addr) (cdv : Value) (A : Around) (outer : List Env) (s : Shared) (H : Hp) (vs : List V) (Q : VK) (E : XK), A.guards = some [] → Room k (A.deeper (envOfC x (defScope st) s.heap.objs.size f cdv)) → sp vs H Q E →
      ∃ t, PSs (cxOf CX0 P w K mg base N x (defScope st) f cdv A outer s H E).nox (defBody st) t ∧ t { nx := fun _ H' => Q .non H', rt := Q } (L2.start N vs) H) : FnG P w K mg base CX0 (k + 1) f fd ps sp := by
  obtain ⟨oc, od, dV, kV, doc, pm, an, cdv, ct, osl, rfl, lk, hcd, _, _⟩ := F.ex
  refine fn_ofG lk hcd sc len fun A outer s H vs Q E hG hr hsp => ?_
  obtain ⟨t, h, q⟩ := hbody f cdv A outer s H vs Q E hG hr hsp
  exact ⟨t, h.nox, q⟩
theorem Src.calG (S : Src K mg x st) (sc : FnScope N ps (defScope st)) (bn : BindP x st ps) (len : ∀ vs H Q E, sp vs H Q E → vs.length = ps.length)
    (hbody : ∀ (f : Addr) (cdv : Value) (A : Around) (outer : List Env) (s : Shared) (H : Hp) (vs : List V) (Q : VK) (E : XK), A.guards = some [] → Room k (A.deeper (envOfC x (defScope st) s.heap.objs.size f cdv)) → sp vs H Q E →
      ∃ t, PSs (cxOf CX0 P w K mg base N x (defScope st) f cdv A outer s H E).nox (defBody st) t ∧ t { nx := fun _ H' => Q .non H', rt := Q } (L2.start N vs) H) : CalG P w K mg base CX0 (k + 1) x ps sp := by
  obtain ⟨f, fd, g, F⟩ := S
  exact ⟨f, fd, g, F.kp, F.bindsN bn, lawG F sc len hbody⟩
end
section
variable {X : Cx} {x : Str} {ps : List Str} {sp : Sp} {k : Nat} {CX : CXT} {E : XK} {e : Expr} {es : List Expr} {t : TA} {p pos : Pos}
/-- f(e, ..) where no repr is under way -/
theorem pe_calG (C : CalG X.prog X.w X.K X.mg X.base CX k x ps sp) (hG : X.A.guards = some []) (hr : Room k X.A) (hx : Passes CX X E) (ha : PA X (e :: es) t) (hg : Gl X x := by rfl) (hdb : (x == ("__debug__" : Str)) = false := by decide)
    (hs : (e :: es).all nostar = true := by rfl) : PE X (.Call (.Name x p) (e :: es) [] pos) (tCall sp [] E t) := by
  obtain ⟨f, fd, g, kp, b, F⟩ := C.ex
  simp only [List.all_cons, Bool.and_eq_true] at hs
  refine ⟨fun pins s σ H Q I h => wpAny_Call_Name_kw (ld_glob I hg g ?_ hdb)⟩
  refine PySem.W.callWith_K (h₀ := X.base) I.ok.mod.kin kp (thn (ha.run pos pins s σ H _ I h) fun us s1 ⟨vs, H1, I1, r, q⟩ => ⟨I1.kIn, ?_⟩) (star_ok hs.1) (back_ok hs.2)
  have q2 : sp vs H1 Q E := by
    have q' : sp (vs ++ []) H1 Q E := q
    rw [List.append_nil] at q'
    exact q'
  have hl : us.length = ps.length := by rw [← r.length]; exact F.len _ _ _ _ q2
  have hb : BindsTo s1 fd ⟨us, []⟩ (ps.zip us) := by
    have := b s1 us I1.kIn (by rw [List.append_nil]; exact hl)
    rw [List.append_nil] at this
    exact this
  refine wpAny_call (codeAny_mono (F.run X.A X.stack s1 H1 ⟨us, []⟩ us vs Q E hG hr I1.env0 hb r q2) fun r s' hq => ?_)
  cases r with
  | error e => exact hx pins σ H1 s1 e s' I1 hq
  | ok fl => cases fl with
    | ret u => exact I1.after hq
    | next => exact hq.elim
    | brk => exact hq.elim
    | cont => exact hq.elim
end
/-! ### repr of data -/
def rRepr (K : PySem.W.Frag) : List V → Hp → VK → Prop := fun xs H Q => ∃ (x : V) (d : PyData), xs = [x] ∧ Dp K H x d ∧ d.showable = true ∧ d.hasDict = false ∧ d.depth ≤ 50 ∧ d.shown.length ≤ sizeLine ∧ Q (.str d.shown) H
theorem call_reprD {X : Cx} (hG : X.A.guards = some []) (hu : X.A.units + 64 < cLine) : CallR X (.builtin "repr") (rRepr X.K) := by
  intro pins s σ H xs us Q I rx h
  obtain ⟨x, d, rfl, hd, sh, nd, dp, hz, q⟩ := h
  obtain ⟨u, rfl, ru⟩ := rx.one
  obtain ⟨as, rd⟩ := Dp.reads I d x u hd ru
  have fin : ∀ h' tk0 tk, (∀ b o, s.heap.get? b = some o → h'.get? b = some o) → EP X pins σ Q (.str d.shown tk0) { s with heap := h', toks := tk } := fun h' tk0 tk hk => ⟨.str d.shown, H, I.kept hk, ⟨_, rfl⟩, q⟩
  have tok : ∀ tk0 tk, EP X pins σ Q (.str d.shown tk0) { s with toks := tk } := fun tk0 tk => ⟨.str d.shown, H, I.tok _, ⟨_, rfl⟩, q⟩
  cases hd with
  | non => cases ru; exact P.repr_of_none (tok _ _)
  | bl b => cases ru; exact P.repr_of_bool (by cases b <;> exact tok _ _)
  | int i =>
    obtain ⟨t, rfl⟩ := ru
    exact P.repr_of_int (by simpa [PyData.showable] using sh) (tok _ _)
  | str z =>
    obtain ⟨t, rfl⟩ := ru
    exact P.repr_of_str (tok _ _) hz
  | lst h1 h2 =>
    cases ru
    exact repr_of_reads' rd sh (fun z => by rw [nd] at z; cases z) hG (by omega) (fun b o e => e) (fun h' u tk hk => fin h' u tk hk) hz
  | tup h1 h2 =>
    cases ru
    exact repr_of_reads' rd sh (fun z => by rw [nd] at z; cases z) hG (by omega) (fun b o e => e) (fun h' u tk hk => fin h' u tk hk) hz
theorem call_reprK {X : Cx} {K : PySem.W.Frag} (hK : X.K = K) (hG : X.A.guards = some []) (hu : X.A.units + 64 < cLine) : CallR X (.builtin "repr") (rRepr K) := by
  subst hK
  exact call_reprD hG hu
end Fx
/-! A law's end where the law's def knows that no repr is under way -/
namespace Fx
open PySem PySem.Spec PyProof.Rows L2
section
variable {P : Program} {w : World} {K : PySem.W.Frag} {mg mb : Str → Option Value} {CX : CXT} {k : Nat} {fa a : Addr} {fd : FuncData} {x : Str} {sp : Sp} {z : Shared} {vs : List Value} {ns : List Int}
/-- the law's call from a heap that tracks the script at most -/
theorem endG_from {H : Hp} (KX : K.In z.heap) (hns : z.heap.Ns mainGlobals mg) (hb : z.heap.Ns builtinsNs mb) (hbb : ∀ x : Str, x ≠ "__name__" → mb x = bootBuiltins x) (hlim : z.heap.NoLimit) (hg : z.gens = #[])
    (ha : z.heap.get? a = some { cls := .type "list", data := .seq vs.toArray }) (hr : Room k callerA) (F : ∀ base : Heap, K.In base → base.Ns mainGlobals mg → FnG P w K mg base CX k fa fd [x] sp)
    (hbind : ∀ (s : Shared) (u : Value), BindsTo s fd ⟨[u], []⟩ [(x, u)]) (hCX : ∀ H e s', CX [] H z (fun _ _ _ => False) e s' → False) (hO : Only H) (hp : sp [.ref a] H (fun v _ => v = .bl true) fun _ _ _ => False)
    (hok : HOk P w H z.heap) (only : ∀ b, H b ≠ none → b = a) (hK : H a ≠ none → K.lookup a = none) :
    codeAny (model P w) callerA (.call (.ref fa) ⟨[.ref a], []⟩) (fun r s' => r = .ok (.ret (.bool true)) ∧ OldK z.heap s'.heap ∧ s'.os = z.os ∧ AllBare s'.gens) z := by
  -- what is not the script is not tracked
  have free : ∀ {b : Addr}, b ≠ a → H b = none := by
    intro b hn
    cases q : H b with
    | none => rfl
    | some u => exact absurd (only b (by rw [q]; intro y; cases y)) hn
  have keepNs : ∀ {b : Addr} {m : Str → Option Value}, z.heap.Ns b m → (hidT z.heap H).Ns b m := by
    rintro b m ⟨o, es, ep, e, d, r⟩
    refine ⟨o, es, ep, hidT_get e (free ?_), d, r⟩
    intro q
    rw [q, ha] at e
    cases e
    cases (show Data.seq vs.toArray _ = Data.dict es ep from d)
  have keepK : K.In (hidT z.heap H) := by
    intro b o e
    refine hidT_get (KX b o e) ?_
    cases q : H b with
    | none => rfl
    | some u =>
      have eb := only b (by rw [q]; intro y; cases y)
      rw [eb] at e q
      rw [hK (by rw [q]; intro y; cases y)] at e
      cases e
  obtain ⟨mc, l1, l2⟩ := hlim
  have hM : Mod K mg (hidT z.heap H) := ⟨keepK, keepNs hns, ⟨mb, keepNs hb, hbb⟩, ⟨mc, keepNs l1, l2⟩⟩
  have none_ : ∀ b : Addr, b ∉ ([] : List Addr) := fun b h => by cases h
  have e0 : Env0 P w K mg (hidT z.heap H) callerA [] z H := ⟨rfl, hM, fun b o e => of_hidT e, Nat.le_of_eq (hidT_size _ _), trivial, fun b q => absurd (show b ∈ ([] : List Addr) from q) (none_ b), hok, .of_eq hg⟩
  have run := (F _ keepK (keepNs hns)).run callerA [] z H ⟨[.ref a], []⟩ [.ref a] [.ref a] _ _ rfl hr e0 (hbind z (.ref a)) (.cons rfl .nil) hp
  refine codeAny_mono run fun r s' h => ?_
  match r, h with
  | .error e, h => exact (hCX H e s' h).elim
  | .ok .next, h => exact h.elim
  | .ok .brk, h => exact h.elim
  | .ok .cont, h => exact h.elim
  | .ok (.ret u), h =>
    obtain ⟨v, H', os, bare, un, hok', ru, qv⟩ := h
    have ev : v = .bl true := qv
    rw [ev] at ru
    obtain rfl : u = Value.bool true := ru
    refine ⟨rfl, OldK.of_keep fun b o e => ?_, os, bare⟩
    rcases hO b with f | ⟨ob, xs, f⟩
    · exact un.keep b o e f (by intro y; exact absurd (show b ∈ ([] : List Addr) from y) (none_ b)) (by simp)
    · have e1 := (hok b _ f).1
      have e2 := (hok' b _ (un.frzs b ob _ f)).1
      rw [e] at e1
      cases e1
      exact e2
end
theorem walk_ofG {l : PySem.W.OpenLaw} {n k : Nat} {q : Program} {loose : List Str} {XP : (Str → Option Value) → Heap → Prop} {YP : World → Heap → Prop} {d : DefRec} {x : Str}
    (hn : l.most = some n) (hn2 : n ≤ sizeLine) (hdf : d.params.defaults = []) (hr : Room k callerA)
    (F : ∀ (w : World) (mg : Str → Option Value) (fa : Addr) (h : Heap), YP w h → h.Ns mainGlobals mg → mg d.name = some (.ref fa) →
      ∃ (K : PySem.W.Frag) (fd : FuncData) (sp : Sp), K.In h ∧ (∀ (s : Shared) (u : Value), BindsTo s fd ⟨[u], []⟩ [(x, u)]) ∧
        (∀ (H : Hp) (a : Addr) (ns : List Int), ns.length ≤ n → SqL K H a (ns.map V.int) → sp [.ref a] H (fun v _ => v = .bl true) fun _ _ _ => False) ∧
        ∀ base : Heap, K.In base → base.Ns mainGlobals mg → FnG l.prog w K mg base CX0 k fa fd [x] sp) :
    PySem.W.WalkO q loose XP YP l.row.toRowW d [] (fun f vs => PySem.call f vs) := by
  refine Att.attach_call hn hdf fun w s₀ z mg mb fa o pm cd doc a vs ns G Y ho hd hcd hmg hobj hints hlen hg => ?_
  obtain ⟨K, fd, sp, KX, hb, hsp, hF⟩ := F w mg fa _ Y G.T.g hmg
  have rv := vals_ints hints
  have lv := hints.length
  have hl : ns.length ≤ sizeLine := Nat.le_trans hlen hn2
  have go : ∀ H : Hp, Only H → SqL K H a (ns.map V.int) → HOk l.prog w H z.heap → (∀ b, H b ≠ none → b = a) → (H a ≠ none → K.lookup a = none) → _ := fun H hO hS hok only hK =>
    endG_from KX G.T.g G.T.b G.T.builtins G.T.nolimit hg hobj hr hF hb (fun _ _ _ y => y) hO (hsp H a ns hlen hS) hok only hK
  cases hk : K.lookup a with
  | some o =>
    have e := KX a o hk
    rw [hobj] at e
    cases e
    have hS : SqL K (fun _ => none) a (ns.map V.int) := .inr ⟨_, vs.toArray, _, hk, rfl, rfl, rfl, (by rw [List.size_toArray, lv]; exact hl), by simpa using rv⟩
    exact go (fun _ => none) (fun _ => .inl rfl) hS (fun b u y => by cases (show (none : Option HO) = some u from y)) (fun b y => absurd rfl y) (fun y => absurd rfl y)
  | none =>
    let o0 : Obj := { cls := .type "list", data := .seq vs.toArray }
    let H0 : Hp := fun b => if b = a then some (.frz o0 (.lst (ns.map V.int))) else none
    have at_ : H0 a = some (.frz o0 (.lst (ns.map V.int))) := if_pos rfl
    have off : ∀ {b : Addr}, b ≠ a → H0 b = none := fun h => if_neg h
    refine go H0 (fun b => ?_) (.inl (.inr ⟨o0, at_⟩)) (fun b u y => ?_) (fun b y => ?_) fun _ => hk
    · by_cases e : b = a
      · rw [e]
        exact .inr ⟨_, _, at_⟩
      · exact .inl (off e)
    · by_cases e : b = a
      · rw [e, at_] at y
        cases y
        rw [e]
        exact ⟨hobj, by rw [List.length_map]; exact hl, vs, _, rv, hobj⟩
      · rw [off e] at y
        cases y
    · by_cases e : b = a
      · exact e
      · exact absurd (off e) y
end Fx
/-! text.ljust(n, sign), sign.join(a tracked list), is True, a module's tuple of tuples -/
namespace Fx
open PySem PySem.Spec PyProof.Rows L2
section
variable {X : Cx}
def rLj : V → List V → Hp → VK → Prop := fun x xs H Q => ∃ (a f : Str) (i : Int), x = .str a ∧ xs = [.int i, .str f] ∧ PadOk i = true ∧ f.length = 1 ∧ Q (.str (Txt.ljustF a i (f.cps.getD 0 0))) H
theorem mt_lj : MtR X "str.ljust" rLj := by
  intro pins s σ H x xs v us Q I rx rs h
  obtain ⟨a, f, i, rfl, rfl, hp, hf, q⟩ := h
  obtain ⟨t, rfl⟩ := rx
  obtain ⟨u1, u2, rfl, r1, r2⟩ := rs.two
  obtain ⟨t1, rfl⟩ := r1
  obtain ⟨t2, rfl⟩ := r2
  exact ljust_fill hp hf fun t' k => ⟨.str _, H, I.tok _, ⟨_, rfl⟩, q⟩
def rJn : V → List V → Hp → VK → Prop := fun x xs H Q => ∃ (a : Str) (p : Addr) (ys : List Str), x = .str a ∧ xs = [.ref p] ∧ H p = some (.lst (ys.map V.str)) ∧ (ys.map (·.length)).sum + ys.length * a.length ≤ 16777216 ∧ Q (.str (Txt.join a ys)) H
theorem mt_jn : MtR X "str.join" rJn := by
  intro pins s σ H x xs v us Q I rx rs h
  obtain ⟨a, p, ys, e1, e2, hp, hz, q⟩ := h
  exact mt_join pins s σ H x xs v us Q I rx rs ⟨a, p, ys, e1, e2, .inl (.inl (.inl hp)), hz, q⟩
def rIsBl : R2 := fun x y H Q => ∃ a b, x = .bl a ∧ y = .bl b ∧ Q (.bl (decide (a = b))) H
theorem op_isBo : OpR X (compareOp .Is) rIsBl := op_is_bl
def rNoBl : R2 := fun x y H Q => ∃ a b, x = .bl a ∧ y = .bl b ∧ Q (.bl (!decide (a = b))) H
theorem op_noBo : OpR X (compareOp .IsNot) rNoBl := op_isnot_bl
end
/-! ### a module's tuple of tuples of numbers -/
def tupI (K : PySem.W.Frag) (v : Value) (r : List Int) : Bool := match v with
  | .ref a => (match K.lookup a with
    | some ⟨.type c, _, .seq its _, _⟩ => decide (c = "tuple") && (decide (its.size ≤ sizeLine) && He.relAll (r.map V.int) its.toList)
    | _ => false)
  | _ => false
def tupIs (K : PySem.W.Frag) : List Value → List (List Int) → Bool
  | [], [] => true
  | v :: vs, r :: rs => tupI K v r && tupIs K vs rs
  | _, _ => false
def tupsB (K : PySem.W.Frag) (x : Str) (rows : List (List Int)) : Bool := match K.lookup (He.ga K x) with
  | some ⟨.type c, _, .seq its _, _⟩ => decide (c = "tuple") && (decide (its.size ≤ sizeLine) && tupIs K its.toList rows)
  | _ => false
theorem tupI_ok {K : PySem.W.Frag} {v : Value} {r : List Int} (h : tupI K v r = true) : ∃ a, v = .ref a ∧ ∀ H, SqT K H a (r.map V.int) := by
  cases v with
  | ref a =>
    refine ⟨a, rfl, fun H => ?_⟩
    unfold tupI at h
    dsimp only at h
    cases q : K.lookup a with
    | none => rw [q] at h; cases h
    | some o =>
      obtain ⟨oc, od, dt, osl⟩ := o
      rw [q] at h
      cases oc with
      | type c =>
        cases dt with
        | seq its n =>
          obtain ⟨h1, h2⟩ := He.ba (show (decide (c = "tuple") && (decide (its.size ≤ sizeLine) && He.relAll (r.map V.int) its.toList)) = true from h)
          obtain ⟨h3, h4⟩ := He.ba h2
          exact .inr ⟨_, its, n, q, congrArg Value.type (of_decide_eq_true h1), rfl, of_decide_eq_true h3, He.relAll_ok h4⟩
        | _ => cases h
      | _ => cases dt <;> cases h
  | _ => cases h
theorem tupIs_ok {K : PySem.W.Frag} : ∀ {vs : List Value} {rs : List (List Int)}, tupIs K vs rs = true → ∃ as : List Addr, Vals (as.map V.ref) vs ∧ ∀ (i : Nat) (r : List Int), rs[i]? = some r → ∃ a, as[i]? = some a ∧ ∀ H, SqT K H a (r.map V.int)
  | [], [], _ => ⟨[], .nil, fun i r h => by simp at h⟩
  | v :: vs, r :: rs, h => by
    obtain ⟨h1, h2⟩ := He.ba (show (tupI K v r && tupIs K vs rs) = true from h)
    obtain ⟨a, rfl, ha⟩ := tupI_ok h1
    obtain ⟨as, hv, hr⟩ := tupIs_ok h2
    refine ⟨a :: as, .cons rfl hv, fun i r' hi => ?_⟩
    cases i with
    | zero =>
      have e : r = r' := by simpa using hi
      exact ⟨a, rfl, e ▸ ha⟩
    | succ i =>
      obtain ⟨b, hb, hs⟩ := hr i r' (by simpa using hi)
      exact ⟨b, by simpa using hb, hs⟩
  | [], _ :: _, h => by cases h
  | _ :: _, [], h => by cases h
theorem tupsB_ok {K : PySem.W.Frag} {x : Str} {rows : List (List Int)} (h : tupsB K x rows = true) : ∃ as : List Addr, (∀ H, SqT K H (He.ga K x) (as.map V.ref)) ∧ ∀ (i : Nat) (r : List Int), rows[i]? = some r → ∃ a, as[i]? = some a ∧ ∀ H, SqT K H a (r.map V.int) := by
  unfold tupsB at h
  cases q : K.lookup (He.ga K x) with
  | none => rw [q] at h; cases h
  | some o =>
    obtain ⟨oc, od, dt, osl⟩ := o
    rw [q] at h
    cases oc with
    | type c =>
      cases dt with
      | seq its n =>
        obtain ⟨h1, h2⟩ := He.ba (show (decide (c = "tuple") && (decide (its.size ≤ sizeLine) && tupIs K its.toList rows)) = true from h)
        obtain ⟨h3, h4⟩ := He.ba h2
        obtain ⟨as, hv, hr⟩ := tupIs_ok h4
        exact ⟨as, fun H => .inr ⟨_, its, n, q, congrArg Value.type (of_decide_eq_true h1), rfl, of_decide_eq_true h3, hv⟩, hr⟩
      | _ => cases h
    | _ => cases dt <;> cases h
/-! ### loops over a text's signs -/
theorem for_S {z : Str} {g : TG} {tb : TS} {D : Ends} {σ : L2.St} {H : Hp} (Pv : Nat → L2.St → Hp → Prop) (h0 : Pv 0 σ H)
    (hs : ∀ i c σ H, z.cps.toList[i]? = some c → Pv i σ H → g (.str ⟨#[c]⟩) σ H fun σ2 H2 => tb { D with nx := Pv (i + 1), ct := Pv (i + 1), bk := D.nx } σ2 H2) (hd : ∀ σ H, Pv z.cps.toList.length σ H → D.nx σ H) :
    ∃ W : Nat → Nat → L2.St → Hp → Prop, (∃ m, W 0 m σ H) ∧ ∀ i m σ H, W i m σ H →
      ((Its z).stop i H ∧ D.nx σ H) ∨ ((Its z).go i H ∧ ∃ N : L2.St → Hp → Prop, (∀ σ' H', N σ' H' → ∃ m', m' < m ∧ W (i + 1) m' σ' H') ∧ ∀ x H', (Its z).yld i H x H' → g x σ H' fun σ2 H2 => tb { D with nx := N, ct := N, bk := D.nx } σ2 H2) := by
  refine ⟨fun i m σ H => m = z.cps.size - i ∧ i ≤ z.cps.size ∧ Pv i σ H, ⟨_, rfl, Nat.zero_le _, h0⟩, ?_⟩
  rintro i m σ H ⟨rfl, hi, p⟩
  by_cases hlt : i < z.cps.size
  · refine .inr ⟨hlt, fun σ' H' => Pv (i + 1) σ' H', fun σ' H' q => ⟨z.cps.size - (i + 1), by omega, rfl, hlt, q⟩, fun x H' hy => ?_⟩
    obtain ⟨rfl, c, hc, rfl⟩ := hy
    exact hs i c σ H' (by rw [Array.getElem?_toList]; exact hc) p
  · have ei : i = z.cps.size := by omega
    subst ei
    exact .inl ⟨Nat.le_refl _, hd σ H (by rw [Array.length_toList]; exact p)⟩
theorem lc_S {z : Str} {g : TG} {tt : TT} {te : TE} {vs : List Nat} {σ : L2.St} {H1 : Hp} {D : Addr} {Qd : Hp → Prop} (Pv : Nat → Hp → Prop) (h0 : Pv 0 (upd H1 D (.lst [])))
    (hs : ∀ i c H, z.cps.toList[i]? = some c → Pv i H → g (.str ⟨#[c]⟩) (wipe σ vs) H fun σ2 H2 => wipe σ2 vs = wipe σ vs ∧ tt σ2 H2 fun b H3 =>
      if b = true then te σ2 H3 fun y H4 => ∃ acc, H4 D = some (.lst acc) ∧ acc.length < sizeLine ∧ Pv (i + 1) (upd H4 D (.lst (acc ++ [y]))) else Pv (i + 1) H3) (hd : ∀ H, Pv z.cps.toList.length H → Qd H) :
    ∃ W : Nat → Nat → Hp → Prop, (∃ m, W 0 m (upd H1 D (.lst []))) ∧ ∀ i m H, W i m H →
      ((Its z).stop i H ∧ Qd H) ∨ ((Its z).go i H ∧ ∃ Nx : Hp → Prop, (∀ H', Nx H' → ∃ m', m' < m ∧ W (i + 1) m' H') ∧ ∀ x H', (Its z).yld i H x H' → g x (wipe σ vs) H' fun σ2 H2 => wipe σ2 vs = wipe σ vs ∧ tt σ2 H2 fun b H3 =>
        if b = true then te σ2 H3 fun y H4 => ∃ acc, H4 D = some (.lst acc) ∧ acc.length < sizeLine ∧ Nx (upd H4 D (.lst (acc ++ [y]))) else Nx H3) := by
  refine ⟨fun i m H => m = z.cps.size - i ∧ i ≤ z.cps.size ∧ Pv i H, ⟨_, rfl, Nat.zero_le _, h0⟩, ?_⟩
  rintro i m H ⟨rfl, hi, p⟩
  by_cases hlt : i < z.cps.size
  · refine .inr ⟨hlt, fun H' => Pv (i + 1) H', fun H' q => ⟨z.cps.size - (i + 1), by omega, rfl, hlt, q⟩, fun x H' hy => ?_⟩
    obtain ⟨rfl, c, hc, rfl⟩ := hy
    exact hs i c H' (by rw [Array.getElem?_toList]; exact hc) p
  · have ei : i = z.cps.size := by omega
    subst ei
    exact .inl ⟨Nat.le_refl _, hd H (by rw [Array.length_toList]; exact p)⟩
theorem mem_sign {c : Nat} {z : Str} {p : Prop} (h : (c ∈ z.cps.toList) = p) : (c ∈ z.cps.toList) = p := h
/-- ''.join -/
theorem join0_list : ∀ ys : List Str, (Txt.join "" ys).cps.toList = (ys.map fun y => y.cps.toList).flatten
  | [] => rfl
  | y :: ys => by
    have key : ∀ (l : List Str) (acc : Array Nat), (l.foldl (fun acc p => acc ++ (("" : Str)).cps ++ p.cps) acc).toList = acc.toList ++ (l.map fun y => y.cps.toList).flatten := by
      intro l
      induction l with
      | nil => intro acc; simp
      | cons a l ih =>
        intro acc
        rw [List.foldl_cons, ih]
        have e : (("" : Str)).cps = #[] := rfl
        rw [e]
        simp
    exact key ys y.cps
mutual
theorem dp_mono {K : PySem.W.Frag} {H H' : Hp} (hl : ∀ a xs, SqL K H a xs → SqL K H' a xs) (ht : ∀ a xs, SqT K H a xs → SqT K H' a xs) : ∀ (d : PyData) (v : V), Dp K H v d → Dp K H' v d
  | .none, _, h => by cases h; exact .non
  | .bool b, _, h => by cases h; exact .bl b
  | .int i, _, h => by cases h; exact .int i
  | .str x, _, h => by cases h; exact .str x
  | .list ds, _, h => by
    cases h with
    | lst hs ha => exact .lst (hl _ _ hs) (dp_monoAll hl ht ds _ ha)
  | .tuple ds, _, h => by
    cases h with
    | tup hs ha => exact .tup (ht _ _ hs) (dp_monoAll hl ht ds _ ha)
  | .dict _, _, h => by cases h
theorem dp_monoAll {K : PySem.W.Frag} {H H' : Hp} (hl : ∀ a xs, SqL K H a xs → SqL K H' a xs) (ht : ∀ a xs, SqT K H a xs → SqT K H' a xs) : ∀ (ds : List PyData) (vs : List V), DpAll K H vs ds → DpAll K H' vs ds
  | [], _, h => by cases h; exact .nil
  | d :: ds, _, h => by
    cases h with
    | cons h1 h2 => exact .cons (dp_mono hl ht d _ h1) (dp_monoAll hl ht ds _ h2)
end
theorem rd_keep {H H' : Hp} {b a : Addr} {o : HO} (hk : ∀ a o, a ≠ b → H a = some o → H' a = some o) (hb : ∃ kvs, H b = some (.dK kvs)) (no : ∀ kvs, o ≠ .dK kvs) (h : Rd H a o) : Rd H' a o := by
  obtain ⟨kvs, hb⟩ := hb
  rcases h with h | ⟨ob, h⟩
  · refine .inl (hk a o (fun e => ?_) h)
    rw [e, hb] at h
    exact no kvs (Option.some.inj h).symm
  · refine .inr ⟨ob, hk a _ (fun e => ?_) h⟩
    rw [e, hb] at h
    cases h
theorem dp_same {K : PySem.W.Frag} {H H' : Hp} {d : PyData} {v : V} (s : Same H H') (h : Dp K H v d) : Dp K H' v d := by
  refine dp_mono (fun _ _ q => s.seq q) (fun a xs q => ?_) d v h
  rcases q with (q | ⟨ob, q⟩) | q
  · exact .inl (.inl (s _ _ q))
  · exact .inl (.inr ⟨ob, s _ _ q⟩)
  · exact .inr q
theorem dp_kp {K : PySem.W.Frag} {b : Addr} {H H' : Hp} {d : PyData} {v : V} (B : Bag H b) (k : Kp b H H') (h : Dp K H v d) : Dp K H' v d := by
  refine dp_mono (fun a xs q => ?_) (fun a xs q => ?_) d v h
  · rcases q with q | q
    · exact .inl (rd_keep k.keep B.some (fun _ e => by cases e) q)
    · exact .inr q
  · rcases q with q | q
    · exact .inl (rd_keep k.keep B.some (fun _ e => by cases e) q)
    · exact .inr q
/-- data that repr shows -/
structure Shw (K : PySem.W.Frag) (H : Hp) (v : V) (d : PyData) : Prop where
  dp : Dp K H v d
  sh : d.showable = true
  nd : d.hasDict = false
  dep : d.depth ≤ 50
  len : d.shown.length ≤ sizeLine
  ok : isF (.str d.shown) = true
theorem Shw.same {K : PySem.W.Frag} {H H' : Hp} {d : PyData} {v : V} (s : Same H H') (h : Shw K H v d) : Shw K H' v d := ⟨dp_same s h.dp, h.sh, h.nd, h.dep, h.len, h.ok⟩
theorem Shw.kp {K : PySem.W.Frag} {b : Addr} {H H' : Hp} {d : PyData} {v : V} (B : Bag H b) (k : Kp b H H') (h : Shw K H v d) : Shw K H' v d := ⟨dp_kp B k h.dp, h.sh, h.nd, h.dep, h.len, h.ok⟩
end Fx
/-! x == y by an own __eq__; own methods and makers in a try's body; a def that is given the caught error -/
namespace Fx
open PySem PySem.Spec PyProof.Rows L2
section
variable {X : Cx} {CX : CXT} {k : Nat} {C : Addr} {ps : List Str} {sp : Sp} {E : XK}
/-- x == y, both of the class at C -/
def rOwnEq (C : Addr) (sp : Sp) (E : XK) : R2 := fun x y H Q => ∃ a b dx dy fs gs, x = .ref a ∧ y = .ref b ∧ H a = some (.ins C dx fs) ∧ H b = some (.ins C dy gs) ∧ sp [.ref a, .ref b] H (fun v H' => ∃ r, v = .bl r ∧ Q (.bl r) H') E
theorem op_eqOwn (M : CalM X.prog X.w X.K X.mg X.base CX k C "__eq__" ps sp) (hr : Room k X.A) (hx : Passes CX X E) : OpR X (compareOp .Eq) (rOwnEq C sp E) := by
  intro pins s σ H x y v u Q I rx ry hq
  obtain ⟨f, fd, m, b, F⟩ := M.ex
  obtain ⟨a, c, dx, dy, fs, gs, rfl, rfl, ha, hc, hsp⟩ := hq
  cases rx
  cases ry
  obtain ⟨mA, J, _⟩ := ins_get I.hok ha
  obtain ⟨mB, J', _⟩ := ins_get I.hok hc
  obtain ⟨od, J, _⟩ := J.look
  obtain ⟨od', J', _⟩ := J'.look
  obtain ⟨mm, hF⟩ := I.fr
  show wpAny (model X.prog X.w) X.A (richCompare .Eq (.ref a) (.ref c)) (EP X pins σ Q) X.xe s
  refine PySem.W.cmp_K (op := .Eq) (tb := .ref C) hr.units0 hF I.ok.mod.kin J J'.type (by simp [PySem.W.notFirst]) m.at_ m.fn ?_
  refine wpAny_mono (run_fn (us := [.ref a, .ref c]) (vs := [.ref a, .ref c]) (ds := []) (dvs := []) (Q := fun v H' => ∃ r, v = .bl r ∧ Q (.bl r) H') F hr b .nil hx I (.cons rfl (.cons rfl .nil)) hsp) (fun v s' hv => ?_) fun _ _ z => z
  obtain ⟨z, H', I', rz, r, rfl, q⟩ := hv
  cases rz
  exact ⟨.bl r, H', I', rfl, q⟩
end
/-! ### in a try's body -/
section
variable {X : Cx} {k : Nat} {f C : Addr} {fd : FuncData} {ps : List Str} {sp : Sp} {W : WX} {x m : Str} {p pos apos : Pos} {e o : Expr} {es : List Expr} {ta : TE} {t : TA}
def tMethT (C : Addr) (m : Str) (sp : Sp) (E : L2.St → XK) (ta : TE) (t : TA) : TE := fun σ H Q => ta σ H fun x H1 => ∃ a dx fs, x = .ref a ∧ H1 a = some (.ins C dx fs) ∧ fs.lookup m = none ∧ t σ H1 fun vs H2 => sp (x :: vs) H2 Q (E σ)
theorem pe_methT {pl : Sem Bool} (he : PE X o ta) (c : Cls X.K C) (hm : Meth X.K C m f) (F : FnOk X.prog X.w X.K X.mg X.base (L2.CX X.prog X.w) k f fd ps sp) (hr : Room k X.A) (hb : Binds X.K fd ps []) (tk : Takes X W) (ha : PA X (e :: es) t)
    (hst : starEach (e :: es) X.env = (false, eval e X.env) :: starEach es X.env := by rfl) (hpl : (backTo pos (starEach es X.env)).any (·.1) = false := by rfl)
    (ht : eval (.Call (.Attribute o m apos) (e :: es) [] pos) X.env = (do
      let ov ← eval o X.env
      standAt apos.atName
      let (f, first) ← holding [ov] (getMethod ov m pl)
      callWith pos f first (backTo pos (starEach (e :: es) X.env)) (backToKw pos (keywordEach [] X.env))) := by rfl) :
    PE X (.Call (.Attribute o m apos) (e :: es) [] pos) (tMethT C m sp (WE W) ta t) := by
  refine ⟨fun pins s σ H Q I h => ?_⟩
  refine PySem.W.methodCall_KW (pl := pl) (thn (he.run pins s σ H _ I h) fun u s1 ⟨x, H1, I1, rx, a, dx, fs, ex, ea, l, q⟩ => ?_) ht
  subst ex
  obtain rfl : u = Value.ref a := rx
  refine getmeth_ok I1 ea c hm l ?_
  refine PySem.W.callWith_K (first := [.ref a]) (h₀ := X.base) I.ok.mod.kin hm.kp (thn (ha.run pos pins s1 σ H1 _ I1 q) fun us s2 ⟨vs, H2, I2, r, q2⟩ => ⟨I2.kIn, ?_⟩) hst hpl
  exact run_fnS (us := .ref a :: us) (vs := .ref a :: vs) (E := WE W) F hr hb (passAt tk σ) I2 (.cons rfl r) q2
/-- C(..) -/
def tMakeT (C : Addr) (sp : Sp) (E : L2.St → XK) (t : TA) : TE := fun σ H Q => t σ H fun vs H1 => ∀ x dx, H1 x = none → H1 dx = none → dx ≠ x →
  sp (.ref x :: vs) (upd (upd H1 dx (.own x)) x (.ins C dx [])) (fun v H2 => v = .non ∧ Q (.ref x) H2) (E σ)
theorem pe_mkT (M : CalI X.prog X.w X.K X.mg X.base (L2.CX X.prog X.w) k C ps sp) (hr : Room (k + 1) X.A) (hm : X.mg x = some (.ref C)) (tk : Takes X W) (ha : PA X (e :: es) t) (hg : Gl X x := by rfl) (hdb : (x == ("__debug__" : Str)) = false := by decide)
    (hs : (e :: es).all nostar = true := by rfl) : PE X (.Call (.Name x p) (e :: es) [] pos) (tMakeT C sp (WE W) t) := by
  obtain ⟨f, fd, m, b, F⟩ := M.ex
  simp only [List.all_cons, Bool.and_eq_true] at hs
  refine ⟨fun pins s σ H Q I h => ?_⟩
  refine wpAny_Call_Name_kw (ld_glob I hg hm ?_ hdb)
  refine PySem.W.callWith_K (h₀ := X.base) I.ok.mod.kin m.kp (thn (ha.run pos pins s σ H _ I h) fun us s1 ⟨vs, H1, I1, r, q⟩ => ⟨I1.kIn, ?_⟩) (star_ok hs.1) (back_ok hs.2)
  have hq := q (s1.heap.objs.size + 1) s1.heap.objs.size (I1.hok.fresh (Nat.le_succ _)) (I1.hok.fresh (Nat.le_refl _)) (Nat.ne_of_lt (Nat.lt_succ_self _))
  have I2 := Inv.made (C := C) I1
  have r2 : Vals (V.ref (s1.heap.objs.size + 1) :: vs) (Value.ref (s1.heap.objs.size + 1) :: us) := .cons rfl r
  have hl : (Value.ref (s1.heap.objs.size + 1) :: us).length = ps.length := by
    have e := r2.length
    rw [F.len _ _ _ _ hq] at e
    exact e.symm
  have b2 := b _ (Value.ref (s1.heap.objs.size + 1) :: us) I2.kIn (by rw [List.append_nil]; exact hl)
  rw [List.append_nil] at b2
  refine wpAny_call (make_map (f := f) I1.kIn m.makes m.init (beq_iff_eq.mp m.fn) (codeAny_mono (F.run _ X.stack _ _ ⟨Value.ref (s1.heap.objs.size + 1) :: us, []⟩ (Value.ref (s1.heap.objs.size + 1) :: us) _ _ (WE W σ) (hr.make C us [])
    (I2.env0.make C us []) b2 r2 hq) fun r s' hq' => ?_))
  cases r with
  | error e => exact passAt tk σ pins _ _ e s' I2 hq'
  | ok fl =>
    cases fl with
    | ret u =>
      obtain ⟨v, H', I3, rv, ev, q3⟩ := I2.after hq'
      subst ev
      exact ⟨rv, ⟨V.ref (s1.heap.objs.size + 1), H', I3, rfl, q3⟩⟩
    | next => exact False.elim hq'
    | brk => exact False.elim hq'
    | cont => exact False.elim hq'
end
/-! ### a def that is given the error which the caller's suite holds -/
abbrev SpE := Addr → Value → Option Addr → Hp → VK → Prop
structure FnE (P : Program) (w : World) (K : PySem.W.Frag) (mg : Str → Option Value) (base : Heap) (k : Nat) (f : Addr) (fd : FuncData) (x : Str) (sp : SpE) : Prop where
  run : ∀ (A : Around) (outer : List Env) (s : Shared) (H : Hp) (args : Args) (Q : VK) (a : Addr) (oe : Obj) (cls : Value) (d : Option Addr), L2H.RoomH k A → L2H.PinOk outer H s (a, oe) → Zc cls d oe → (∃ vs, oe.data = .fields vs) → Env0 P w K mg base A outer s H →
    BindsTo s fd args [(x, .ref a)] → sp a cls d H Q → codeAny (model P w) A (.call (.ref f) args) (CR CX0 outer P w H s Q E0) s
/-- the context of its body -/
abbrev cxE (P : Program) (w : World) (K : PySem.W.Frag) (mg : Str → Option Value) (base : Heap) (N : List Str) (qual : Str) (scope : Scope) (f : Addr) (cd : Value) (A : Around) (outer : List Env) (s : Shared) (H : Hp) (p : Addr × Obj) : Cx :=
  (L2H.cxH CX0 P w K mg base N qual scope f cd A outer s H E0 p).nox
theorem fn_ofE {P : Program} {w : World} {K : PySem.W.Frag} {mg : Str → Option Value} {base : Heap} {k : Nat} {f : Addr} {name qual : Str} {params : Arguments} {body : List Stmt} {scope : Scope} {dV kV doc pm cdv ct oc : Value} {an od : Option Addr}
    {osl : Array (Option Value)} {N : List Str} {x : Str} {sp : SpE} (lk : K.lookup f = some ⟨oc, od, .func (PySem.W.fnOf name qual params body scope dV kV doc pm an cdv ct), osl⟩) (hcd : PySem.W.codeIn K cdv qual = true) (S : FnScope N [x] scope)
    (hbody : ∀ (A : Around) (outer : List Env) (s : Shared) (H : Hp) (Q : VK) (a : Addr) (oe : Obj) (cls : Value) (d : Option Addr), L2H.RoomH k (A.deeper (envOfC qual scope s.heap.objs.size f cdv)) → Zc cls d oe → (∃ vs, oe.data = .fields vs) → sp a cls d H Q →
      ∃ t, PSs (cxE P w K mg base N qual scope f cdv A outer s H (a, oe)) body t ∧ t { nx := fun _ H' => Q .non H', rt := Q } (L2.start N [.ref a]) H) :
    FnE P w K mg base (k + 1) f (PySem.W.fnOf name qual params body scope dV kV doc pm an cdv ct) x sp := by
  refine ⟨fun A outer s H args Q a oe cls d hr hpin hz hf e0 hb hsp => ?_⟩
  have KX : K.In s.heap := e0.mod.kin.keeps fun b o e => (e0.bs b o e).1
  have lim : s.heap.NoLimit := e0.mod.nolimit.keeps fun b o e => (e0.bs b o e).1
  have hkind : ∀ y ∈ [(x, Value.ref a)], scope.names.lookup y.1 = some .local ∨ (scope.names.lookup y.1 = some .cell ∧ ((cellsFrom (s.heap.objs.size + 1) scope.names []).lookup y.1).isSome = true) := fun y hy => by
    have ey : y = (x, Value.ref a) := List.mem_singleton.mp hy
    rw [ey]
    rcases S.par x List.mem_cons_self with q | q
    · exact .inl q
    · exact .inr ⟨q, PySem.W.cellsFrom_some _ _ _ (.inl q)⟩
  refine codeAny_call_function hr.depth (KX _ _ lk) rfl S.co S.gen rfl (PySem.W.codeRec_of KX hcd) (hb _ _ _ _ ?_)
  refine wpAny_newFunctionEnv_cells S.kind hkind fun env he s1 y => ?_
  subst he
  refine ⟨lim.keeps y.toInCall.keep, codeAny_func ?_⟩
  obtain ⟨t, ht, hq⟩ := hbody A outer s H Q a oe cls d (hr.deeper _) hz hf hsp
  have I : Inv (L2H.cxH CX0 P w K mg base N qual scope f cdv A outer s H E0 (a, oe)) [] (L2.start N [.ref a]) H s1 := L2H.inv_startH (us := [.ref a]) S hpin e0 rfl (.cons rfl .nil) y
  refine wpAny_mono (ht.nox.run [] s1 (L2.start N [.ref a]) H _ I hq) (fun fl s' hs => ?_) fun e s' hs => hs
  have fin : ∀ {σ' : L2.St} {H' : Hp} {v : V} {u : Value}, Inv (L2H.cxH CX0 P w K mg base N qual scope f cdv A outer s H E0 (a, oe)) [] σ' H' s' → RelV v u → Q v H' → CE outer P w H s Q u s' :=
    fun {σ' H' v u} J rv q => ⟨v, H', J.os, J.bare, J.base, J.hok, rv, q⟩
  cases fl with
  | ret u =>
    obtain ⟨v, σ', H', J, rv, q⟩ := hs
    exact fin J rv q
  | next =>
    obtain ⟨σ', H', J, q⟩ := hs
    exact fin (v := V.non) (u := Value.none) J rfl q
  | brk =>
    obtain ⟨_, _, _, q⟩ := hs
    exact False.elim q
  | cont =>
    obtain ⟨_, _, _, q⟩ := hs
    exact False.elim q
structure CalE (P : Program) (w : World) (K : PySem.W.Frag) (mg : Str → Option Value) (base : Heap) (k : Nat) (x : Str) (ps : List Str) (sp : SpE) : Prop where
  ex : ∃ f fd y, ps = [y] ∧ mg x = some (.ref f) ∧ PySem.W.keepIn K (.ref f) = true ∧ Binds K fd [y] [] ∧ FnE P w K mg base k f fd y sp
theorem Src.calE {P : Program} {w : World} {K : PySem.W.Frag} {mg : Str → Option Value} {base : Heap} {x y : Str} {st : Stmt} {N : List Str} {k : Nat} {sp : SpE} (S : Src K mg x st) (sc : FnScope N [y] (defScope st)) (bn : BindP x st [y])
    (hbody : ∀ (f : Addr) (cdv : Value) (A : Around) (outer : List Env) (s : Shared) (H : Hp) (Q : VK) (a : Addr) (oe : Obj) (cls : Value) (d : Option Addr), L2H.RoomH k (A.deeper (envOfC x (defScope st) s.heap.objs.size f cdv)) → Zc cls d oe → (∃ vs, oe.data = .fields vs) → sp a cls d H Q →
      ∃ t, PSs (cxE P w K mg base N x (defScope st) f cdv A outer s H (a, oe)) (defBody st) t ∧ t { nx := fun _ H' => Q .non H', rt := Q } (L2.start N [.ref a]) H) : CalE P w K mg base (k + 1) x [y] sp := by
  obtain ⟨f, fd, g, F⟩ := S
  have b := F.bindsN bn
  have kp := F.kp
  obtain ⟨oc, od, dV, kV, doc, pm, an, cdv, ct, osl, rfl, lk, hcd, _, _⟩ := F.ex
  exact ⟨f, _, y, rfl, g, kp, b, fn_ofE lk hcd sc fun A outer s H Q a oe cls d hr hz hf hsp => hbody f cdv A outer s H Q a oe cls d hr hz hf hsp⟩
section
variable {X : Cx} {k : Nat} {x : Str} {ps : List Str} {sp : SpE} {p pos : Pos} {e : Expr} {te : TA} {a : Addr} {oe : Obj} {cls : Value} {d : Option Addr} {pn : List (Addr × Obj)}
def tCallE (a : Addr) (cls : Value) (d : Option Addr) (sp : SpE) (te : TA) : TE := fun σ H Q => te σ H fun vs H1 => vs = [.ref a] ∧ sp a cls d H1 Q
/-- f(err) in the suite -/
theorem pe_calE (C : CalE X.prog X.w X.K X.mg X.base k x ps sp) (hr : Room k X.A) (hz : Zc cls d oe) (hf : ∃ vs, oe.data = .fields vs) (ha : PA (X.suite a ((a, oe) :: pn)) [e] te) (hg : Gl (X.suite a ((a, oe) :: pn)) x := by rfl) (hdb : (x == ("__debug__" : Str)) = false := by decide)
    (hs : nostar e = true := by rfl) : PE (X.suite a ((a, oe) :: pn)) (.Call (.Name x p) [e] [] pos) (tCallE a cls d sp te) := by
  obtain ⟨f, fd, y, _, g, kp, b, F⟩ := C.ex
  refine ⟨fun pins s σ H Q I h => ?_⟩
  refine wpAny_Call_Name_kw (ld_glob I hg g ?_ hdb)
  refine PySem.W.callWith_K (h₀ := X.base) I.ok.mod.kin kp (thn (ha.run pos pins s σ H _ I h) fun us s1 ⟨vs, H1, I1, r, ev, q⟩ => ⟨I1.kIn, ?_⟩) (star_ok hs) rfl
  subst ev
  cases r with
  | cons rx rr =>
    cases rr
    cases rx
    have P1 := I1.pin (a, oe) (List.mem_append_left _ List.mem_cons_self)
    have hpin : L2H.PinOk X.stack H1 s1 (a, oe) := ⟨P1.1, P1.2.1, fun hm => (List.mem_cons.mp (I1.stkSub a hm)).elim P1.2.2.1 P1.2.2.2.1, P1.2.2.2.2⟩
    have bb := b s1 [.ref a] I1.kIn rfl
    refine wpAny_call (codeAny_mono (F.run (X.suite a ((a, oe) :: pn)).A X.stack s1 H1 ⟨[.ref a], []⟩ Q a oe cls d ⟨hr.dp, hr.un⟩ hpin hz hf I1.env0 bb q) fun r s' hq => ?_)
    cases r with
    | error e => exact False.elim hq
    | ok fl =>
      cases fl with
      | ret u => exact I1.after hq
      | next => exact False.elim hq
      | brk => exact False.elim hq
      | cont => exact False.elim hq
end
/-- isinstance(err, (C1, C2, ..)) -/
def rIsYT (K : PySem.W.Frag) (a : Addr) (cls : Value) (d : Option Addr) : List V → Hp → VK → Prop := fun xs H Q => ∃ tp, xs = [.ref a, .ref tp] ∧ ∃ D, cls = .ref D ∧ ∃ dd, d = some dd ∧ (∃ fs, H dd = some (.xd fs)) ∧ ExcC K D ∧
  ∃ cs, H tp = some (.tup cs) ∧ ∃ us, cs.map clsVal = us.map some ∧ ∃ b, PySem.W.kitAny K (.ref D) us = some b ∧ Q (.bl b) H
theorem cls_vals : ∀ {cs : List V} {us ws : List Value}, cs.map clsVal = us.map some → Vals cs ws → ws = us
  | [], [], _, _, .nil => rfl
  | [], _ :: _, _, h, _ => by cases h
  | _ :: _, [], _, h, _ => by cases h
  | c :: cs, u :: us, _, h, .cons r rr => by
    simp only [List.map_cons, List.cons.injEq] at h
    have e2 := cls_vals h.2 rr
    subst e2
    congr 1
    have h1 := h.1
    cases c with
    | ref C2 => cases h1; exact r
    | ty n => cases h1; exact r
    | _ => cases h1
theorem call_isYT {X : Cx} {a : Addr} {oe : Obj} {cls : Value} {d : Option Addr} (hp : (a, oe) ∈ X.pn) (hz : Zc cls d oe) (hf : ∃ vs, oe.data = .fields vs) : CallR X (.builtin "isinstance") (rIsYT X.K a cls d) := by
  intro pins s σ H xs us Q I r h
  obtain ⟨tp, rfl, D, rfl, dd, rfl, ⟨fs, hdd⟩, C, cs, hT, ws, hcs, b, e, q⟩ := h
  cases r with
  | cons rx rr =>
    cases rr with
    | cons rt rr =>
      cases rr
      cases rx
      cases rt
      obtain ⟨hget, _⟩ := I.pin (a, oe) (List.mem_append_left _ hp)
      obtain ⟨vs, hv⟩ := hf
      have hx : ObjOk X.prog X.w H s.heap dd (.xd fs) := I.hok dd _ hdd
      obtain ⟨mA, ⟨od, es, ep, ho, hrest⟩, hr⟩ := hx
      have J : PySem.W.InstAt s.heap a oe D (some od) := ⟨hget, hz.1, by unfold PySem.W.notCls; rw [hv] <;> rfl, by rw [hz.2]; exact ho⟩
      obtain ⟨_, its, rv, o, h1, h2, n, h3⟩ := (show ObjOk X.prog X.w H s.heap tp (.tup cs) from I.hok tp _ hT)
      have e3 := cls_vals hcs rv
      subst e3
      obtain ⟨oc, od2, dt, sl⟩ := o
      simp only at h2 h3
      subst h2 h3
      exact PySem.W.kia_tup (PySem.W.fx_kitx C.hg C.hk C.hs C.hd C.ha C.hn C.ht C.hm) I.kIn ⟨_, J⟩ h1 e (fun z => nomatch z) fun tk => ⟨.bl b, H, I.kept (t' := tk) fun _ _ z => z, rfl, q⟩
end Fx
namespace Fx
open PySem PySem.Spec PyProof.Rows L2
/-- // of any sign -/
def CDivZ (_ j : Int) : Prop := j ≠ 0 ∧ j.natAbs.log2 < 9000
section
variable {X : Cx}
theorem op_fdivZ : OpR X (binaryOp .FloorDiv) (rI CDivZ fun i j => .int (i.fdiv j)) := opI fun i j _ _ _ _ _ hc q => floordiv_int hc.1 q (.inl (PyProof.noPylong_of_log2 hc.2))
def rIntB : List V → Hp → VK → Prop := fun xs H Q => ∃ k, xs = [.bl k] ∧ Q (.int (if k = true then 1 else 0)) H
theorem int_B : CallR X (.type "int") rIntB := CallR.imp call_int1 fun xs H Q h => .inr h
/-- a callee that may raise, and does not -/
theorem passX : Passes (L2.CX X.prog X.w) X E0 := fun _ _ _ _ _ _ _ h => by
  obtain ⟨_, _, _, _, _, _, _, _, _, _, _, _, hE⟩ := h
  exact hE.elim
end
theorem cdivZ_of {i j : Int} (h0 : j ≠ 0) (h : j.natAbs < 2 ^ 64) : CDivZ i j := ⟨h0, Nat.lt_trans (PySem.Flt.log2_lt_of (by decide) h) (by decide)⟩
theorem Bag.ins {H : Hp} {b : Addr} (B : Bag H b) {a C dx : Addr} {fs : List (Str × V)} (h : H a = Option.some (.ins C dx fs)) : a ≠ b := by
  obtain ⟨c, ns, x, r, m, n, h1, _⟩ := B
  exact ne_of h h1 (by intro z; cases z)
theorem Kp.ins {H H1 : Hp} {b : Addr} (x : Kp b H H1) (B : Bag H b) {a C dx : Addr} {fs : List (Str × V)} (h : H a = Option.some (.ins C dx fs)) : H1 a = Option.some (.ins C dx fs) := x.keep _ _ (B.ins h) h
end Fx
namespace Fx
open PySem PySem.Spec PyProof.Rows L2
/-- isinstance(o, C), o an instance of an own class -/
def rIsI (K : PySem.W.Frag) : List V → Hp → VK → Prop := fun xs H Q => ∃ a c, xs = [.ref a, c] ∧ ∃ D dx fs, H a = some (.ins D dx fs) ∧ C8.InsC K D ∧ ∃ cv, clsVal c = some cv ∧ ∃ b, PySem.W.kitOne K (.ref D) cv = some b ∧ Q (.bl b) H
theorem is_I {X : Cx} : CallR X (.builtin "isinstance") (rIsI X.K) := by
  intro pins s σ H xs us Q I r h
  obtain ⟨a, c, rfl, D, dx, fs, ha, k, cv, hcv, b, hb, q⟩ := h
  obtain ⟨u, w', rfl, ru, rw'⟩ := vals2 r
  have e : w' = cv := by
    cases c with
    | ref C2 => cases hcv; exact rw'
    | ty n => cases hcv; exact rw'
    | _ => cases hcv
  subst e
  exact isinst_ok I ru (TyOf.ins ha k.cl k.ha k.hn k.htk k.hm) hb fun tk => ⟨.bl b, H, I.tok _, rfl, q⟩
def insB (K : PySem.W.Frag) (C : Addr) : Bool := decide (PySem.W.findIn K (.ref C) "__class__" = some (some (.builtin "object.__class__"))) && (decide (PySem.W.specialIn K (.builtin "object.__class__") "__get__" = some (some (.builtin "getset_descriptor.__get__"))) &&
  (decide (PySem.W.takesIn K (.builtin "object.__class__") = some true) && (decide (PySem.W.mroIn K C (.type "object") = some true) && decide (PySem.W.kitOne K (.ref C) (.ref C) = some true))))
theorem insC_of {K : PySem.W.Frag} {C : Addr} (cl : Cls K C) (h : insB K C = true) : C8.InsC K C := by
  obtain ⟨h1, h⟩ := He.ba h
  obtain ⟨h2, h⟩ := He.ba h
  obtain ⟨h3, h⟩ := He.ba h
  obtain ⟨h4, h5⟩ := He.ba h
  exact ⟨cl, of_decide_eq_true h1, of_decide_eq_true h2, of_decide_eq_true h3, of_decide_eq_true h4, of_decide_eq_true h5⟩
end Fx
namespace Fx
open PySem PySem.Spec PyProof.Rows L2
/-- the loop over a list or a tuple that stays, by an invariant -/
theorem forQ {K : PySem.W.Frag} {a : Addr} {xs : List V} {j : Nat} {g : TG} {tb : TS} {D : Ends} {σ : L2.St} {H : Hp} (hv : σ[j]? = some (some (.ref a))) (hq : Sq H a xs) (Pv : Nat → L2.St → Hp → Prop) (h0 : Pv 0 σ H) (hS : ∀ i σ H', Pv i σ H' → Same H H')
    (hs : ∀ i x σ H, xs[i]? = some x → Pv i σ H → g x σ H fun σ2 H2 => tb { D with nx := Pv (i + 1), ct := Pv (i + 1), bk := D.nx } σ2 H2) (hd : ∀ σ H, Pv xs.length σ H → D.nx σ H) : tFor (iQ K (tVar j)) g tb D σ H := by
  rcases hq with hq | hq
  · exact .inl ⟨_, hv, a, rfl, ⟨_, .inl (.inl hq)⟩, for_list (K := K) (a := a) (xs := xs) Pv h0 (fun i σ H' _ p => .inl (.inl (hS i σ H' p _ _ hq))) hs hd⟩
  · exact .inr ⟨_, hv, a, rfl, ⟨_, .inl (.inl hq)⟩, for_tup (K := K) (a := a) (xs := xs) Pv h0 (fun i σ H' _ p => .inl (.inl (hS i σ H' p _ _ hq))) hs hd⟩
end Fx
namespace Fx
open PySem PySem.Spec PyProof.Rows L2
/-- a statement first; what follows stays folded -/
theorem nxI {t : TS} {D : Ends} {σ : L2.St} {H : Hp} (h : ∀ K : L2.St → Hp → Prop, (∀ σ H, D.nx σ H → K σ H) → t { D with nx := K } σ H) : t D σ H := h D.nx fun _ _ x => x
end Fx
/-! Instances of own classes under the operators: len(o), o[i], x in o, o | p, o != p, list(o) -/
namespace PySem.W
open PySem PySem.Spec PySem.Calls PyProof.Rows
section
variable {prog : Program} {w : World} {A : Around} {E : Value → Shared → Prop} {s : Shared} {K : Frag} {x C L f : Addr} {h₀ : Heap} {m : Str → Option Value} {ox : Obj} {od : Option Obj} {b tb : Value}
theorem fx_ne_K {Q : Value → Shared → Prop} (hu : A.units + 1 < cLine) (F : Fr h₀ L s.heap m) (X₀ : K.In h₀) (I : InstAt s.heap x ox C od) (hb : Looks (model prog w) s.heap (typeOf b) tb) (hn : notFirst K C tb = true)
    (hs : findIn K (.ref C) "__ne__" = some (some (.builtin "object.__ne__"))) (hq : findIn K (.ref C) "__eq__" = some (some (.ref f))) (hf : isFn K (.ref f) = true) (ho : subIn K (.ref C) (.type "object") = some true)
    (h : wpAny (model prog w) A.in1 (call (.ref f) [.ref x, b]) (fun v s' => ∃ r, v = .bool r ∧ Q (.bool (!r)) s') E s) : wpAny (model prog w) A (richCompare .NotEq (.ref x) b) Q E s := by
  have X := X₀.keeps F.keep
  have fin : wpAny (model prog w) A (call (.builtin "object.__ne__") [.ref x, b]) (fun v s' => ∃ r, v = .bool r ∧ Q v s') E s := by
    refine wpAny_call (codeAny_call_builtin PySem.F.cmp_object.ne.plain PySem.F.cmpEntry_ne ?_)
    refine check_slot (i := "object.__ne__") (owner := "object") (n := "__ne__") PySem.F.cmpKind_ne PySem.F.cmpSplit_ne (I.type.andThen (looks_subIn X ho)) (PySem.F.cmpArgs_ne _ _) ?_
    unfold Builtin.«object.__ne__»
    refine wpAny_bind (wpAny_of_eq (a := ((Value.ref x : Value), [b])) (by first | rfl | (simp only [slotArgs]; rfl)) ?_)
    refine wpAny_bind (wpAny_cRoomFor (show A.in1.units < cLine from hu) ?_)
    refine wpAny_bind (ifBound_K X I hq hf (wpAny_mono h (fun v s' hv => ?_) fun _ _ e => e))
    obtain ⟨r, rfl, q⟩ := hv
    refine wpAny_bind (m := truthy (.bool r)) (wpAny_truthy_bool ?_)
    first | exact wpAny_pure ⟨_, rfl, ⟨_, rfl, q⟩⟩ | exact wpAny_pure ⟨_, rfl, q⟩ | exact wpAny_pure q
  have one : wpAny (model prog w) A (tryCompare (.ref x) "__ne__" b) (fun r s' => ∃ v, r = some v ∧ Q v s') E s := by
    unfold tryCompare
    have fin2 : wpAny (model prog w) A (call (.builtin "object.__ne__") ([.ref x] ++ [b]) >>= fun v => pure (some v)) (fun r s' => ∃ c, r = some (.bool c) ∧ Q (.bool c) s') E s := wpAny_bind (wpAny_mono fin (fun v s' hv => by
      obtain ⟨r, rfl, q⟩ := hv
      exact wpAny_pure ⟨_, rfl, q⟩) fun _ _ e => e)
    have two : wpAny (model prog w) A (callSpecialIfBound? (.ref x) "__ne__" [b]) (fun r s' => ∃ c, r = some (.bool c) ∧ Q (.bool c) s') E s := by
      simp only [callSpecialIfBound?, bindSpecialIfBound?]
      refine wpAny_holding (wpAny_bind (wpAny_bind (wpAny_bind (I.type.here ((looks_findIn X hs).here ?_)))))
      refine wpAny_bind (wpAny_askSetting (wpAny_ite ?_))
      split
      · rw [PySem.F.cmp_object.ne.bind]
        exact wpAny_bind (wpAny_pure (wpAny_pure (by exact fin2)))
      · rw [PySem.F.cmp_object.ne.bind]
        exact wpAny_tryCatch (wpAny_bind (wpAny_pure (wpAny_pure (by exact fin2))))
    refine wpAny_bind (wpAny_mono two (fun r s' hv => ?_) fun _ _ e => e)
    obtain ⟨c, rfl, q⟩ := hv
    exact wpAny_pure ⟨_, rfl, q⟩
  unfold richCompare
  simp only [oneThing_ref]
  refine wpAny_holding (wpAny_bind (wpAny_cRoomFor (Nat.lt_of_succ_lt hu) ?_))
  refine wpAny_bind (I.type.here (wpAny_bind (hb.here ?_)))
  split
  · rename_i q
    have e : subIn K tb (.ref C) = some false := by
      rcases Bool.or_eq_true_iff.mp hn with e | e
      · rw [beq_iff_eq.mp e] at q; simp at q
      · exact beq_iff_eq.mp e
    refine wpAny_bind ((looks_subIn X e).here ?_)
    simp only [Bool.false_eq_true, if_false]
    refine wpAny_bind (wpAny_mono one (fun r s' z => ?_) fun _ _ e => e)
    obtain ⟨v, rfl, hq⟩ := z
    exact wpAny_pure hq
  · refine wpAny_bind (wpAny_pure ?_)
    simp only [Bool.false_eq_true, if_false]
    refine wpAny_bind (wpAny_mono one (fun r s' z => ?_) fun _ _ e => e)
    obtain ⟨v, rfl, hq⟩ := z
    exact wpAny_pure hq
end
end PySem.W
namespace Fx
open PySem PySem.Spec PyProof.Rows L2
section
variable {X : Cx} {CX : CXT} {k : Nat} {C : Addr} {ps : List Str} {sp : Sp} {E : XK}
/-- the callee runs somewhere below -/
theorem run_fnA {A : Around} {f : Addr} {fd : FuncData} {pins : List (Addr × Obj)} {σ : L2.St} {H : Hp} {s : Shared} {Q : VK} {us : List Value} {vs : List V} (hA : A.frames = X.A.frames) (F : FnOk X.prog X.w X.K X.mg X.base CX k f fd ps sp) (hr : Room k A) (hb : Binds X.K fd ps []) (hx : Passes CX X E)
    (I : Inv X pins σ H s) (r : Vals vs us) (h : sp vs H Q E) : wpAny (model X.prog X.w) A (call (.ref f) us) (EP X pins σ Q) X.xe s := by
  have e0 : Env0 X.prog X.w X.K X.mg X.base A X.stack s H := by
    have e := I.env0
    exact ⟨by rw [hA]; exact e.frames, e.mod, e.bs, e.bsz, e.funs, e.frf, e.hok, e.bare⟩
  have hl : us.length = ps.length := by rw [← r.length]; exact F.len _ _ _ _ h
  have b := hb s us I.kIn (by rw [List.append_nil]; exact hl)
  rw [List.append_nil] at b
  refine wpAny_call (codeAny_mono (F.run A X.stack s H ⟨us, []⟩ us vs Q E hr e0 b r h) fun r s' hq => ?_)
  cases r with
  | error e => exact hx pins σ H s e s' I hq
  | ok fl =>
    cases fl with
    | ret u => exact I.after hq
    | next => exact False.elim hq
    | brk => exact False.elim hq
    | cont => exact False.elim hq
theorem inst_at {pins : List (Addr × Obj)} {σ : L2.St} {H : Hp} {s : Shared} {a dx : Addr} {fs : List (Str × V)} (I : Inv X pins σ H s) (ha : H a = some (.ins C dx fs)) : ∃ ox od, PySem.W.InstAt s.heap a ox C od := by
  obtain ⟨mA, J, _⟩ := ins_get I.hok ha
  obtain ⟨od, J, _⟩ := J.look
  exact ⟨_, _, J⟩
/-- len(o) -/
def rLenO (C : Addr) (sp : Sp) (E : XK) : List V → Hp → VK → Prop := fun xs H Q => ∃ a dx fs, xs = [.ref a] ∧ H a = some (.ins C dx fs) ∧ sp [.ref a] H (fun v H' => ∃ n, v = .int n ∧ 0 ≤ n ∧ n < 2 ^ 63 ∧ Q (.int n) H') E
theorem len_O (M : CalM X.prog X.w X.K X.mg X.base CX k C "__len__" ps sp) (hr : Room (k + 1) X.A) (hx : Passes CX X E) : CallR X (.builtin "len") (rLenO C sp E) := by
  intro pins s σ H xs us Q I rv h
  obtain ⟨a, dx, fs, rfl, ha, hsp⟩ := h
  obtain ⟨f, fd, m, b, F⟩ := M.ex
  obtain ⟨u, rfl, ru⟩ := rv.one
  cases ru
  obtain ⟨ox, od, J⟩ := inst_at I ha
  obtain ⟨mm, hF⟩ := I.fr
  refine PySem.W.len_K hF I.ok.mod.kin J m.at_ m.fn ?_
  refine wpAny_mono (run_fnA (A := X.A.in1) (vs := [.ref a]) (us := [.ref a]) rfl F hr.in1 b hx I (.cons rfl .nil) hsp) (fun v s' hv => ?_) fun _ _ z => z
  obtain ⟨z, H', I', rz, n, rfl, h0, h1, q⟩ := hv
  obtain ⟨t, rfl⟩ := rz
  exact ⟨⟨h0, h1⟩, .int n, H', I'.tok _, ⟨_, rfl⟩, q⟩
/-- x in o -/
def rInO (C : Addr) (sp : Sp) (E : XK) : R2 := fun x y H Q => ∃ a dx fs, y = .ref a ∧ H a = some (.ins C dx fs) ∧ sp [.ref a, x] H (fun v H' => ∃ r, v = .bl r ∧ Q (.bl r) H') E
def rNotInO (C : Addr) (sp : Sp) (E : XK) : R2 := fun x y H Q => ∃ a dx fs, y = .ref a ∧ H a = some (.ins C dx fs) ∧ sp [.ref a, x] H (fun v H' => ∃ r, v = .bl r ∧ Q (.bl (!r)) H') E
theorem in_O (M : CalM X.prog X.w X.K X.mg X.base CX k C "__contains__" ps sp) (hr : Room k X.A) (hx : Passes CX X E) : OpR X (compareOp .In) (rInO C sp E) := by
  intro pins s σ H x y v u Q I rx ry hq
  obtain ⟨f, fd, m, b, F⟩ := M.ex
  obtain ⟨a, dx, fs, rfl, ha, hsp⟩ := hq
  cases ry
  obtain ⟨ox, od, J⟩ := inst_at I ha
  obtain ⟨mm, hF⟩ := I.fr
  refine PySem.W.in_K hF I.ok.mod.kin J m.at_ m.fn ?_
  refine wpAny_mono (run_fnA (vs := [.ref a, x]) (us := [.ref a, v]) rfl F hr b hx I (.cons rfl (.cons rx .nil)) hsp) (fun v s' hv => ?_) fun _ _ z => z
  obtain ⟨z, H', I', rz, r, rfl, q⟩ := hv
  cases rz
  exact wpAny_truthy_bool ⟨.bl r, H', I', rfl, q⟩
theorem notIn_O (M : CalM X.prog X.w X.K X.mg X.base CX k C "__contains__" ps sp) (hr : Room k X.A) (hx : Passes CX X E) : OpR X (compareOp .NotIn) (rNotInO C sp E) := by
  intro pins s σ H x y v u Q I rx ry hq
  obtain ⟨f, fd, m, b, F⟩ := M.ex
  obtain ⟨a, dx, fs, rfl, ha, hsp⟩ := hq
  cases ry
  obtain ⟨ox, od, J⟩ := inst_at I ha
  obtain ⟨mm, hF⟩ := I.fr
  refine PySem.W.notIn_K hF I.ok.mod.kin J m.at_ m.fn ?_
  refine wpAny_mono (run_fnA (vs := [.ref a, x]) (us := [.ref a, v]) rfl F hr b hx I (.cons rfl (.cons rx .nil)) hsp) (fun v s' hv => ?_) fun _ _ z => z
  obtain ⟨z, H', I', rz, r, rfl, q⟩ := hv
  cases rz
  exact wpAny_truthy_bool ⟨.bl (!r), H', I', rfl, q⟩
/-- o op p, both of the class at C -/
def rBinO (C : Addr) (sp : Sp) (E : XK) : R2 := fun x y H Q => ∃ a b dx dy fs gs, x = .ref a ∧ y = .ref b ∧ H a = some (.ins C dx fs) ∧ H b = some (.ins C dy gs) ∧ sp [.ref a, .ref b] H (fun v H' => ∃ r, v = .ref r ∧ Q (.ref r) H') E
theorem bin_O {op : Operator} {mn : Str} (hop : PySem.dunder op.info.2 = mn) (M : CalM X.prog X.w X.K X.mg X.base CX k C mn ps sp) (hc : PySem.W.selfFirst X.K C = true) (hr : Room k X.A) (hx : Passes CX X E) : OpR X (binaryOp op) (rBinO C sp E) := by
  intro pins s σ H x y v u Q I rx ry hq
  obtain ⟨f, fd, m, b, F⟩ := M.ex
  obtain ⟨a, c, dx, dy, fs, gs, rfl, rfl, ha, hb, hsp⟩ := hq
  cases rx
  cases ry
  subst hop
  obtain ⟨ox, od, J⟩ := inst_at I ha
  obtain ⟨oy, od', J'⟩ := inst_at I hb
  obtain ⟨mm, hF⟩ := I.fr
  refine PySem.W.binop_K hF I.ok.mod.kin J J'.type hc m.at_ m.fn ?_
  refine wpAny_mono (run_fnA (vs := [.ref a, .ref c]) (us := [.ref a, .ref c]) rfl F hr b hx I (.cons rfl (.cons rfl .nil)) hsp) (fun v s' hv => ?_) fun _ _ z => z
  obtain ⟨z, H', I', rz, r, rfl, q⟩ := hv
  cases rz
  exact ⟨.ref r, H', I', rfl, q⟩
/-- o != p by the own __eq__ -/
def rNeO (C : Addr) (sp : Sp) (E : XK) : R2 := fun x y H Q => ∃ a b dx dy fs gs, x = .ref a ∧ y = .ref b ∧ H a = some (.ins C dx fs) ∧ H b = some (.ins C dy gs) ∧ sp [.ref a, .ref b] H (fun v H' => ∃ r, v = .bl r ∧ Q (.bl (!r)) H') E
def neB (K : PySem.W.Frag) (C : Addr) : Bool := decide (PySem.W.findIn K (.ref C) "__ne__" = some (some (.builtin "object.__ne__"))) && decide (PySem.W.subIn K (.ref C) (.type "object") = some true)
theorem ne_O (M : CalM X.prog X.w X.K X.mg X.base CX k C "__eq__" ps sp) (hn : neB X.K C = true) (hr : Room (k + 1) X.A) (hx : Passes CX X E) : OpR X (compareOp .NotEq) (rNeO C sp E) := by
  intro pins s σ H x y v u Q I rx ry hq
  obtain ⟨f, fd, m, b, F⟩ := M.ex
  obtain ⟨a, c, dx, dy, fs, gs, rfl, rfl, ha, hb, hsp⟩ := hq
  cases rx
  cases ry
  obtain ⟨h1, h2⟩ := He.ba hn
  obtain ⟨ox, od, J⟩ := inst_at I ha
  obtain ⟨oy, od', J'⟩ := inst_at I hb
  obtain ⟨mm, hF⟩ := I.fr
  show wpAny (model X.prog X.w) X.A (richCompare .NotEq (.ref a) (.ref c)) (EP X pins σ Q) X.xe s
  refine PySem.W.fx_ne_K (tb := .ref C) (by have := hr.un; omega) hF I.ok.mod.kin J J'.type (by simp [PySem.W.notFirst]) (of_decide_eq_true h1) m.at_ m.fn (of_decide_eq_true h2) ?_
  refine wpAny_mono (run_fnA (A := X.A.in1) (vs := [.ref a, .ref c]) (us := [.ref a, .ref c]) rfl F hr.in1 b hx I (.cons rfl (.cons rfl .nil)) hsp) (fun v s' hv => ?_) fun _ _ z => z
  obtain ⟨z, H', I', rz, r, rfl, q⟩ := hv
  cases rz
  exact ⟨r, rfl, .bl (!r), H', I', rfl, q⟩
/-- o[i] -/
def rIxO (C : Addr) (sp : Sp) (E : XK) : R2 := fun x y H Q => ∃ a dx fs, x = .ref a ∧ H a = some (.ins C dx fs) ∧ sp [.ref a, y] H Q E
def ixB (K : PySem.W.Frag) (C : Addr) : Bool := match PySem.W.findIn K (.ref C) "__getitem__" with
  | some (some (.ref f)) => PySem.W.fnIn K f
  | _ => false
theorem pe_ixO {ae be : Expr} {ta tb : TE} {pos : Pos} (M : CalM X.prog X.w X.K X.mg X.base CX k C "__getitem__" ps sp) (hr : Room (k + 1) X.A) (hx : Passes CX X E) (ha : PE X ae ta) (hb : PE X be tb)
    (hs : ∀ v u, subscripted be true v u = runValue (.builtin "lifetime.subscript" ⟨[v, u], []⟩)) (hfn : ixB X.K C = true) : PE X (.Subscript ae be pos) (tOp (rIxO C sp E) ta tb) := by
  obtain ⟨f, fd, m, b, F⟩ := M.ex
  refine ⟨fun pins s σ H Q I h => ?_⟩
  refine Subscript_ (binT ha hb I h fun v u s2 x y H2 I2 rx ry q => ?_)
  obtain ⟨a, dx, fs, rfl, hA, hsp⟩ := q
  cases rx
  obtain ⟨ox, od, J⟩ := inst_at I2 hA
  obtain ⟨mm, hF⟩ := I2.fr
  refine PySem.W.sub_K hF I2.ok.mod.kin J m.at_ (by unfold ixB at hfn; rw [m.at_] at hfn; exact hfn) m.fn ?_ (hs _ _)
  exact run_fnA (A := X.A.in1) (vs := [.ref a, y]) (us := [.ref a, u]) rfl F hr.in1 b hx I2 (.cons rfl (.cons ry .nil)) hsp
end
end Fx
namespace Fx
open PySem PySem.Spec PyProof.Rows L2
/-! ### a tuple whose object is known (its methods may be called) -/
def FT (H : Hp) (p : Addr) (xs : List V) : Prop := ∃ ob : Obj, H p = some (.frz ob (.tup xs)) ∧ ob.dict = none
theorem FT.same {H H' : Hp} {p : Addr} {xs : List V} (h : FT H p xs) (s : Same H H') : FT H' p xs := by
  obtain ⟨ob, h, d⟩ := h
  exact ⟨ob, s _ _ h, d⟩
theorem FT.kp {b : Addr} {H H' : Hp} {p : Addr} {xs : List V} (h : FT H p xs) (B : Bag H b) (k : Kp b H H') : FT H' p xs := by
  obtain ⟨ob, h, d⟩ := h
  refine ⟨ob, k.keep _ _ ?_ h, d⟩
  obtain ⟨kvs, hb⟩ := B.some
  exact ne_of h hb (by intro z; cases z)
theorem FT.sq {K : PySem.W.Frag} {H : Hp} {p : Addr} {xs : List V} (h : FT H p xs) : SqT K H p xs := by
  obtain ⟨ob, h, _⟩ := h
  exact .inl (.inr ⟨ob, h⟩)
section
variable {X : Cx}
/-- tuple(xs) -/
def rTupF : List V → Hp → VK → Prop := fun vs H Q => ∃ p, vs = [.ref p] ∧ ∃ ys, H p = some (.lst ys) ∧ ∀ l H', H l = none → Same H H' → FT H' l ys → Q (.ref l) H'
theorem tup_F : CallR X (.type "tuple") rTupF := by
  intro pins s σ H xs us Q I r h
  obtain ⟨p, rfl, ys, hp, q⟩ := h
  obtain ⟨u, rfl, rx⟩ := r.one
  cases rx
  obtain ⟨its, r', pl, hz⟩ := I.list (xs := ys) (.inl (.inl hp))
  have hlen := r'.length
  refine call_tuple_list pl.isList (fun h' kp => ?_) (by simp only [List.size_toArray] <;> omega)
  have I1 : Inv X pins σ H { s with heap := h' } := I.kept (t' := s.toks) kp
  have I2 : Inv X pins σ (upd H h'.objs.size (.frz { cls := .type "tuple", data := .seq its.toArray } (.tup ys))) { s with heap := h'.push { cls := .type "tuple", data := .seq its.toArray } } :=
    I1.laid (t' := s.toks) (fun b o e => Heap.get?_push_of_some _ e) (Nat.le_refl _) (show ObjOk X.prog X.w _ _ _ (.frz _ (.tup ys)) from ⟨Heap.get?_push_size _ rfl, hz, its, r', IsTup.new _ _⟩)
  have nl : H h'.objs.size = none := I1.hok.fresh (Nat.le_refl _)
  exact ⟨.ref h'.objs.size, _, I2, rfl, q _ _ nl (same_new nl) ⟨_, upd_same, rfl⟩⟩
end
end Fx
namespace Fx
open PySem PySem.Spec PyProof.Rows L2
/-! ### iter(t), t a tuple; list(o) of an instance whose __iter__ says iter(self.f) -/
def TItO (p it : Addr) (i : Nat) : HO := .ext fun h => h.IsTupleIter it p i
def EndO (it : Addr) : HO := .ext fun h => ∃ o, h.get? it = some o
theorem titO_ok {P : Program} {w : World} {H : Hp} {h : Heap} {p it : Addr} {i : Nat} (e : h.IsTupleIter it p i) : ObjOk P w H h it (TItO p it i) := ⟨e, let ⟨o, ho, _⟩ := e; ⟨o, ho⟩, fun h1 h2 q k => let ⟨o, ho, r⟩ := q; ⟨o, k _ ho, r⟩⟩
theorem endO_ok {P : Program} {w : World} {H : Hp} {h : Heap} {it : Addr} (e : ∃ o, h.get? it = some o) : ObjOk P w H h it (EndO it) := ⟨e, e, fun h1 h2 q k => let ⟨o, ho⟩ := q; ⟨o, k _ ho⟩⟩
section
variable {prog : Program} {w : World} {A : Around} {E : Value → Shared → Prop} {s : Shared}
theorem call_iterT0 {t : Addr} {items : Array Value} {Q : Value → Shared → Prop} (hl : s.heap.IsTuple t items) (h : Q (.ref s.heap.objs.size) { s with heap := s.heap.push { cls := .type "tuple_iterator", data := .fields #[.ref t, .int 0 0] } }) : wpAny (model prog w) A (call (.builtin "iter") [.ref t]) Q E s := by
  refine Calls.call_function_entry (by decide +kernel) (by decide +kernel) PySem.W.kdk_entry_iter (PySem.W.kdk_args_iter _) ?_
  unfold Builtin.«iter»
  refine wpAny_bind (m := someArgs "iter" 1 2 _) (wpAny_of_eq (a := [Value.ref t]) (by first | rfl | kernel_rfl!) ?_)
  show wpAny _ _ (pyIter (.ref t) >>= _) _ _ _
  refine wpAny_bind (wpAny_pyIter_tuple hl ?_)
  exact wpAny_pure ⟨_, rfl, h⟩
/-- the end, with the iterator still there -/
theorem next_tuple_end {it t : Addr} {i : Nat} {items : Array Value} {Q : Option Value → Shared → Prop} (hh : A.handled = none)
    (hit : s.heap.IsTupleIter it t i) (ht : s.heap.IsTuple t items) (hx : items[i]? = none)
    (hQ : ∀ h', Heap.ExtBut it s.heap h' → (∃ o, h'.get? it = some o) → Q none { s with heap := h' }) : wpAny (model prog w) A (pyNext (.ref it)) Q E s := by
  obtain ⟨o, ho, hc, hd⟩ := id hit
  obtain ⟨ol, hol, _, nl, hdl⟩ := ht
  unfold pyNext
  refine wpAny_bind (wpAny_attempt (wpAny_callSpecial?_slot (name := Str.ofString "__next__") hit.typeIs PySem.F.slot_tuple_iterator_next
    (wpAny_call_entry PySem.F.slot_tuple_iterator_next hit.typeIs PySem.F.entry_tuple_iterator_next ?_ (PySem.F.args_tuple_iterator_next_1 _))))
  show wpAny _ _ (field (.ref it) 0 >>= _) _ _ s
  refine wpAny_bind (wpAny_field ho hd (x := .ref t) rfl ?_)
  show wpAny _ _ (if (Value.ref t == Value.none) = true then _ else _) _ _ s
  rw [if_neg (show ¬ ((Value.ref t == Value.none) = true) from Bool.false_ne_true)]
  show wpAny _ _ (field (.ref it) 1 >>= _) _ _ s
  refine wpAny_bind (wpAny_field ho hd (x := .int i 0) rfl ?_)
  show wpAny _ _ (seqItems? (.ref t) >>= _) _ _ s
  refine wpAny_bind (wpAny_seqItems hol hdl ?_)
  simp only [Int.toNat_natCast, hx]
  refine wpAny_bind (wpAny_rule (wpAny_bind (wpAny_setField ho hd (by simp) ?_)))
  show wpAny _ _ (newExc (.type "StopIteration") [] >>= _) _ _ _
  refine wpAny_bind ?_
  simp only [newExc, newTuple]
  refine wpAny_bind (wpAny_newObj_type ?_ (by size_fits))
  refine wpAny_bind (m := firstArgMember _ _) (wpAny_of_eq (a := Value.none) (by first | rfl | (simp only [firstArgMember]; rfl)) ?_)
  refine wpAny_newObj_type ?_ (by size_fits)
  simp only [raiseNew]
  refine wpAny_bind (wpAny_handled ?_)
  first | rw [show A.in1.handled = none from hh] | rw [hh]
  refine wpAny_bind (wpAny_pure (wpAny_throw ?_))
  refine wpAny_bind (wpAny_isInstance (T := "StopIteration") (b := true) ⟨_, Heap.get?_push_size _ rfl, rfl⟩ isSubtype_stop ?_)
  refine wpAny_pure (hQ _ (((Heap.SameBut.update ..).extBut.push _).push _) ⟨_, Heap.get?_push_of_some _ (Heap.get?_push_of_some _ (Heap.get?_update_self _ ho (Obj.isFreed_of_fields (Obj.data_mapFields hd _))))⟩)
end
section
variable {X : Cx}
/-- iter(t) -/
def rIterT : List V → Hp → VK → Prop := fun xs H Q => ∃ t, xs = [.ref t] ∧ ∃ zs, FT H t zs ∧ ∀ it, H it = none → Q (.ref it) (upd H it (TItO t it 0))
theorem iter_T : CallR X (.builtin "iter") rIterT := by
  intro pins s σ H xs us Q I r h
  obtain ⟨t, rfl, zs, hq, q⟩ := h
  obtain ⟨u, rfl, ru⟩ := r.one
  cases ru
  obtain ⟨its, rv, pl, hz⟩ := I.tuple (xs := zs) hq.sq
  refine call_iterT0 pl ?_
  exact ⟨.ref s.heap.objs.size, _, I.laid (t' := s.toks) (fun b u e => Heap.get?_push_of_some _ e) (Nat.le_refl _) (titO_ok ⟨_, Heap.get?_push_size _ rfl, rfl, rfl⟩), rfl, q _ (I.hok.fresh (Nat.le_refl _))⟩
theorem upd_in {H : Hp} {a b : Addr} {o u v : HO} (h : a ≠ b) : upd (upd (upd H a o) b u) a v = upd (upd H a v) b u := by
  funext c
  unfold upd
  by_cases h1 : c = a
  · have h2 : c ≠ b := fun e => h (h1.symm.trans e)
    rw [if_pos h1, if_neg h2, if_pos h1]
  · rw [if_neg h1]
    by_cases h2 : c = b
    · rw [if_pos h2, if_pos h2]
    · rw [if_neg h2, if_neg h2, if_neg h1, if_neg h1]
variable {pins : List (Addr × Obj)} {σ : L2.St} {A1 : Around}
theorem tup_loop {H0 : Hp} {p it q : Addr} {ys : List V} {Rs : Result → Shared → Prop} (hh : A1.handled = none) (hiq : it ≠ q) (hpi : p ≠ it) (hpq : p ≠ q) (hp : FT H0 p ys) (hl : ys.length ≤ sizeLine)
    (hdone : ∀ s, Inv X pins σ (upd (upd H0 it (EndO it)) q (.lst ys)) s → Rs (.ok (.ret .none)) s) :
    ∀ (m i : Nat) (s : Shared), ys.length - i = m → i ≤ ys.length → Inv X pins σ (upd (upd H0 it (TItO p it i)) q (.lst (ys.take i))) s → codeAny (model X.prog X.w) A1 (.builtin "list.extend.loop" ⟨[.ref q, .ref it, .none], []⟩) Rs s := by
  intro m
  induction m with
  | zero =>
    intro i s hm hi I
    have ei : i = ys.length := by omega
    refine codeAny_builtin PySem.F.entry_extend_loop ?_
    rw [Around.under_plainId PySem.F.plain_extend_loop _]
    show wpAny _ A1.in1 (pyNext (.ref it) >>= _) _ _ s
    have hH : upd (upd H0 it (TItO p it i)) q (.lst (ys.take i)) it = some (TItO p it i) := by rw [upd_ne hiq, upd_same]
    have hP : FT (upd (upd H0 it (TItO p it i)) q (.lst (ys.take i))) p ys := by
      obtain ⟨ob, hp, hd⟩ := hp
      exact ⟨ob, by rw [upd_ne hpq, upd_ne hpi]; exact hp, hd⟩
    have hit : s.heap.IsTupleIter it p i := (I.hok it _ hH).1
    obtain ⟨its, rv, pl, hz⟩ := I.tuple (xs := ys) hP.sq
    refine wpAny_bind (next_tuple_end (A := A1.in1) hh hit pl (by rw [List.getElem?_toArray]; exact rv.none_of (by rw [ei]; exact List.getElem?_eq_none (Nat.le_refl _))) fun h' eb ex => ?_)
    refine wpAny_pure (hdone _ ?_)
    have mu : Mut (upd (upd H0 it (TItO p it i)) q (.lst (ys.take i)) it) := by rw [hH]; exact True.intro
    have I2 := I.write (x := it) (e := it) (t' := s.toks) mu (.inl rfl) (fun b o nb z => eb b o nb z) ex (endO_ok (H := upd (upd (upd H0 it (TItO p it i)) q (.lst (ys.take i))) it (EndO it)) ex)
    rw [upd_in hiq, ei, List.take_length] at I2
    exact I2
  | succ m ih =>
    intro i s hm hi I
    have hlt : i < ys.length := by omega
    refine codeAny_builtin PySem.F.entry_extend_loop ?_
    rw [Around.under_plainId PySem.F.plain_extend_loop _]
    show wpAny _ A1.in1 (pyNext (.ref it) >>= _) _ _ s
    have hH : upd (upd H0 it (TItO p it i)) q (.lst (ys.take i)) it = some (TItO p it i) := by rw [upd_ne hiq, upd_same]
    have hP : FT (upd (upd H0 it (TItO p it i)) q (.lst (ys.take i))) p ys := by
      obtain ⟨ob, hp, hd⟩ := hp
      exact ⟨ob, by rw [upd_ne hpq, upd_ne hpi]; exact hp, hd⟩
    have hit : s.heap.IsTupleIter it p i := (I.hok it _ hH).1
    obtain ⟨its, rv, pl, hz⟩ := I.tuple (xs := ys) hP.sq
    obtain ⟨u, hu, ru⟩ := rv.get (List.getElem?_eq_getElem hlt)
    refine wpAny_bind (wpAny_pyNext_tuple_item hit pl (x := u) (by rw [List.getElem?_toArray]; exact hu) fun h' e' sb => ?_)
    have mu : Mut (upd (upd H0 it (TItO p it i)) q (.lst (ys.take i)) it) := by rw [hH]; exact True.intro
    have ex : ∃ o, h'.get? it = some o := let ⟨o, ho, _⟩ := e'; ⟨o, ho⟩
    have I2 := I.write (x := it) (e := it) (t' := s.toks) mu (.inl rfl) (fun b o nb z => (sb.2 b nb).trans z) ex (titO_ok (H := upd (upd (upd H0 it (TItO p it i)) q (.lst (ys.take i))) it (TItO p it (i + 1))) e')
    rw [upd_in hiq] at I2
    have hq2 : upd (upd H0 it (TItO p it (i + 1))) q (.lst (ys.take i)) q = some (.lst (ys.take i)) := upd_same
    obtain ⟨z, its2, k, r2, hl2, e2⟩ := I2.lstM hq2
    show wpAny _ A1.in1 (updateSeq q (·.push u) >>= _) _ _ _
    have lt : (ys.take i).length = i := by rw [List.length_take]; omega
    refine wpAny_bind (wpAny_updateSeq e2 rfl (wpAny_pure ⟨plainId_quiet PySem.F.plain_extend_loop _, ?_⟩) (by rw [List.size_toArray]; omega) (by show (its2.toArray.push u).size ≤ sizeLine + 1; rw [Array.size_push, List.size_toArray]; omega))
    have I3 := I2.lset (f := (·.push u)) (its' := its2 ++ [u]) (ys := ys.take i ++ [ys[i]]) (t' := s.toks) hq2 e2 (by simp) (r2.append (.cons ru .nil)) (by rw [List.length_append, List.length_singleton]; omega)
    rw [upd_upd, List.take_append_getElem hlt] at I3
    exact ih (i + 1) _ (by omega) hlt I3
end
end Fx
namespace Fx
open PySem PySem.Spec PyProof.Rows L2
section
variable {X : Cx} {k : Nat} {C : Addr} {psI psL : List Str} {spI spL : Sp}
theorem run_fn0 {A : Around} {f : Addr} {fd : FuncData} {ps : List Str} {sp : Sp} {E' : Value → Shared → Prop} {pins : List (Addr × Obj)} {σ : L2.St} {H : Hp} {s : Shared} {Q : VK} {us : List Value} {vs : List V} (hA : A.frames = X.A.frames) (F : FnOk X.prog X.w X.K X.mg X.base CX0 k f fd ps sp) (hr : Room k A) (hb : Binds X.K fd ps [])
    (I : Inv X pins σ H s) (r : Vals vs us) (h : sp vs H Q E0) : wpAny (model X.prog X.w) A (call (.ref f) us) (EP X pins σ Q) E' s := by
  have e0 : Env0 X.prog X.w X.K X.mg X.base A X.stack s H := by
    have e := I.env0
    exact ⟨by rw [hA]; exact e.frames, e.mod, e.bs, e.bsz, e.funs, e.frf, e.hok, e.bare⟩
  have hl : us.length = ps.length := by rw [← r.length]; exact F.len _ _ _ _ h
  have b := hb s us I.kIn (by rw [List.append_nil]; exact hl)
  rw [List.append_nil] at b
  refine wpAny_call (codeAny_mono (F.run A X.stack s H ⟨us, []⟩ us vs Q E0 hr e0 b r h) fun r s' hq => ?_)
  cases r with
  | error e => exact False.elim hq
  | ok fl =>
    cases fl with
    | ret u => exact I.after hq
    | next => exact False.elim hq
    | brk => exact False.elim hq
    | cont => exact False.elim hq
/-- the own __len__ tells the length ahead of the filling -/
theorem own_hintL {A : Around} {pins : List (Addr × Obj)} {σ : L2.St} {H : Hp} {s : Shared} {a dx : Addr} {fs : List (Str × V)} {Q : Bool → Shared → Prop} (hA : A.frames = X.A.frames) (M : CalM X.prog X.w X.K X.mg X.base CX0 k C "__len__" psL spL) (hr : Room (k + 1) A) (I : Inv X pins σ H s) (ha : H a = some (.ins C dx fs))
    {R : Hp → Prop} (hsp : spL [.ref a] H (fun v H' => ∃ n, v = .int n ∧ 0 ≤ n ∧ n ≤ 1000000 ∧ R H') E0) (hq : ∀ b H' s', Inv X pins σ H' s' → R H' → Q b s') : wpAny (model X.prog X.w) A (Builtin.List.listLengthHint (.ref a)) Q X.xe s := by
  obtain ⟨f, fd, m, b, F⟩ := M.ex
  obtain ⟨ox, od, J⟩ := inst_at I ha
  obtain ⟨mm, hF⟩ := I.fr
  unfold Builtin.List.listLengthHint
  refine wpAny_bind (wpAny_bind (J.type.here ((PySem.W.looks_findIn I.kIn m.at_).here ?_)))
  refine PySem.W.KFB.if_not rfl ?_
  refine PySem.W.KFB.if_so rfl ?_
  refine wpAny_bind (wpAny_rule ?_)
  refine wpAny_bind (wpAny_attempt (PySem.W.len_K hF I.ok.mod.kin J m.at_ m.fn ?_))
  refine wpAny_mono (run_fn0 (E' := fun _ _ => False) (A := A.in1) (vs := [.ref a]) (us := [.ref a]) hA F hr.in1 b I (.cons rfl .nil) hsp) (fun v s' hv => ?_) fun _ _ z => z.elim
  obtain ⟨z, H', I', rz, n, rfl, h0, h1, r⟩ := hv
  obtain ⟨t, rfl⟩ := rz
  refine ⟨⟨h0, by omega⟩, ?_⟩
  have tl : Builtin.List.listTooLong n.toNat = false := by
    unfold Builtin.List.listTooLong
    rw [decide_eq_false_iff_not, sizeLine_eq]
    omega
  show wpAny _ _ (asInt? (.int n _) >>= _) _ _ _
  refine wpAny_bind (wpAny_of_eq (a := some n) (by first | rfl | (simp only [asInt?]; rfl)) ?_)
  refine PySem.W.KFB.if_not tl ?_
  exact wpAny_pure (hq _ H' _ (I'.tok _) r)
/-- list(o) -/
def rListO (C : Addr) (spI spL : Sp) : List V → Hp → VK → Prop := fun xs H Q => ∃ a, xs = [.ref a] ∧ ∃ dx fs, H a = some (.ins C dx fs) ∧ ∀ q, H q = none → spI [.ref a] (upd H q (.lst [])) (fun v H1 => ∃ it, v = .ref it ∧ ∃ p, H1 it = some (TItO p it 0) ∧ ∃ dx fs, H1 a = some (.ins C dx fs) ∧
  spL [.ref a] H1 (fun v2 H2 => ∃ n, v2 = .int n ∧ 0 ≤ n ∧ n ≤ 1000000 ∧ H2 it = some (TItO p it 0) ∧ H2 q = some (.lst []) ∧ ∃ ys, FT H2 p ys ∧ Q (.ref q) (upd (upd H2 it (EndO it)) q (.lst ys))) E0) E0
theorem list_O (MI : CalM X.prog X.w X.K X.mg X.base CX0 k C "__iter__" psI spI) (ML : CalM X.prog X.w X.K X.mg X.base CX0 k C "__len__" psL spL) (hc : X.calm = true) (hr : Room (k + 3) X.A) : CallR X (.type "list") (rListO C spI spL) := by
  intro pins s σ H xs us Q I rv h
  obtain ⟨a, rfl, dx, fs, ha, hq⟩ := h
  obtain ⟨u, rfl, ru⟩ := rv.one
  cases ru
  refine callType_codes (Q₁ := fun obj s₁ => obj = .ref s.heap.objs.size ∧ s₁ = { s with heap := s.heap.push { cls := .type "list", data := .seq #[] } }) PySem.F.called_list (PySem.F.typeCall_list_1 _) PySem.F.entry_list_init
    (code_list_new _ ⟨rfl, rfl⟩) fun obj s₁ h₁ => ?_
  obtain ⟨rfl, rfl⟩ := h₁
  have hS : (s.heap.push { cls := .type "list", data := .seq #[] }).get? s.heap.objs.size = some { cls := .type "list", data := .seq #[] } := Heap.get?_push_size _ rfl
  refine ⟨⟨_, hS, rfl⟩, PySem.F.args_list_init_2 _ _, ?_⟩
  have fr : H s.heap.objs.size = none := I.hok.fresh (Nat.le_refl _)
  have hq := hq _ fr
  have I1 : Inv X pins σ (upd H s.heap.objs.size (.lst [])) { s with heap := s.heap.push { cls := .type "list", data := .seq #[] } } := I.lnew (its := []) (t' := s.toks) .nil (Nat.zero_le _)
  show wpAny _ _ (do let old ← Builtin.List.listItems (.ref s.heap.objs.size); Builtin.List.listUpdate (.ref s.heap.objs.size) (fun _ => #[]); letGo old.toList.reverse; Builtin.List.listExtendWith (.ref s.heap.objs.size) (.ref a) .none) _ _ _
  refine wpAny_bind ?_
  unfold Builtin.List.listItems
  refine wpAny_bind (wpAny_seqItems hS rfl (wpAny_pure ?_))
  show wpAny _ _ (updateSeq s.heap.objs.size (fun _ => #[]) >>= fun _ => letGo (#[] : Array Value).toList.reverse >>= fun _ => Builtin.List.listExtendWith (.ref s.heap.objs.size) (.ref a) .none) _ _ _
  refine wpAny_bind (wpAny_updateSeq hS rfl ?_)
  have I2 := I1.lset (f := fun _ => #[]) (its := []) (its' := []) (ys := []) (t' := s.toks) upd_same hS rfl .nil (Nat.zero_le _)
  rw [upd_upd] at I2
  refine wpAny_bind (wpAny_letGo ?_)
  have ha2 : upd H s.heap.objs.size (.lst []) a = some (.ins C dx fs) := by rw [upd_ne (ne_of_none ha fr)]; exact ha
  generalize s.heap.objs.size = q at *
  have hne : q ≠ a := fun e => by
    rw [e, ha] at fr
    cases fr
  obtain ⟨fi, fdi, mi, bi, Fi⟩ := MI.ex
  obtain ⟨ox, od, J⟩ := inst_at I2 ha2
  obtain ⟨mm, hF⟩ := I2.fr
  have hr1 : Room k X.A.in1.in1 := (Room.in1 (Room.in1 hr)).mono (Nat.le_succ _)
  unfold Builtin.List.listExtendWith
  refine wpAny_bind (J.type.here ?_)
  have h1 : Builtin.List.listSameRef (.ref q) (.ref a) = false := by simp [Builtin.List.listSameRef, hne]
  have h2 : (Value.ref C == Value.type "list") = false := rfl
  have h3 : (Value.ref C == Value.type "tuple") = false := rfl
  simp only [h1, h2, h3, Bool.or_false, Bool.false_eq_true, if_false]
  refine wpAny_bind (PySem.W.owit_iter hF I2.ok.mod.kin J mi.at_ mi.fn ?_)
  refine wpAny_mono (run_fn0 (E' := fun _ _ => False) (A := X.A.in1.in1) (vs := [.ref a]) (us := [.ref a]) rfl Fi hr1 bi I2 (.cons rfl .nil) hq) (fun v s' hv => ?_) fun _ _ z => z.elim
  obtain ⟨z, H1, I3, rz, it, rfl, p, hit, dx1, fs1, ha3, hsp⟩ := hv
  cases rz
  have hit0 : s'.heap.IsTupleIter it p 0 := (I3.hok it _ hit).1
  unfold PySem.W.OwitIt
  refine wpAny_specialOf (name := Str.ofString "__next__") hit0.typeIs PySem.F.slot_tuple_iterator_next.lookup ?_
  refine wpAny_bind (wpAny_holding ?_)
  refine own_hintL (A := X.A.in1.in1) rfl ML ((Room.in1 (Room.in1 hr))) I3 ha3 (R := fun H2 => H2 it = some (TItO p it 0) ∧ H2 q = some (.lst []) ∧ ∃ ys, FT H2 p ys ∧ Q (.ref q) (upd (upd H2 it (EndO it)) q (.lst ys))) hsp (fun room H2 s2 I4 hR => ?_)
  obtain ⟨hi2, hq2, ys, hp2, hQ⟩ := hR
  have hiq : it ≠ q := ne_of hi2 hq2 (by unfold TItO; intro z; cases z)
  obtain ⟨obp, hpp, hpd⟩ := id hp2
  have hpi : p ≠ it := ne_of hpp hi2 (by unfold TItO; intro z; cases z)
  have hpq : p ≠ q := ne_of hpp hq2 (by intro z; cases z)
  have hl : ys.length ≤ sizeLine := (I4.hok p _ hpp).2.1
  have e0 : upd (upd H2 it (TItO p it 0)) q (.lst (ys.take 0)) = H2 := by
    funext c
    unfold upd
    by_cases h1 : c = q
    · rw [if_pos h1, h1]
      exact hq2.symm
    · rw [if_neg h1]
      by_cases h2 : c = it
      · rw [if_pos h2, h2]
        exact hi2.symm
      · rw [if_neg h2]
  have go : ∀ s3, Inv X pins σ H2 s3 → codeAny (model X.prog X.w) X.A.in1 (.builtin "list.extend.loop" ⟨[.ref q, .ref it, .none], []⟩) (wants (fun r s₂ => r = .none ∧ EP X pins σ Q (.ref q) s₂) X.xe) s3 := fun s3 I5 =>
    tup_loop (A1 := X.A.in1) (H0 := H2) (show X.A.in1.handled = none from I5.ok.hd hc) hiq hpi hpq hp2 hl (fun s4 I6 => ⟨rfl, .ref q, _, I6, rfl, hQ⟩) ys.length 0 s3 (by omega) (Nat.zero_le _) (by rw [e0]; exact I5)
  obtain ⟨z, its, kk, r3, hl3, e3⟩ := I4.lstM hq2
  cases r3
  refine wpAny_ite_split (fun _ => ?_) (fun _ => wpAny_pure ⟨plainId_quiet PySem.F.plain_extend_loop _, go _ I4⟩)
  refine wpAny_bind (wpAny_rule ?_)
  refine wpAny_bind ?_
  show wpAny _ _ (updateSeq q (·.push .none) >>= fun _ => updateSeq q (·.pop)) _ _ _
  refine wpAny_bind (wpAny_updateSeq e3 rfl ?_)
  have J2 := I4.lset (f := (·.push Value.none)) (its' := [Value.none]) (ys := [.non]) (t' := s2.toks) hq2 e3 (by simp) (.cons rfl .nil) (by rw [List.length_singleton, sizeLine_eq]; decide)
  obtain ⟨z4, its4, k4, r4, hl4, e4⟩ := J2.lstM upd_same
  obtain ⟨u4, rfl, ru4⟩ := r4.one
  refine wpAny_updateSeq e4 rfl ?_ (by show 1 ≤ sizeLine; rw [sizeLine_eq]; decide) (by show 0 ≤ sizeLine + 1; exact Nat.zero_le _)
  refine wpAny_pure ⟨plainId_quiet PySem.F.plain_extend_loop _, go _ ?_⟩
  have J3 := J2.lset (f := (·.pop)) (its := [u4]) (its' := []) (ys := []) (t' := s2.toks) upd_same e4 (by rfl) .nil (Nat.zero_le _)
  rw [upd_upd] at J3
  have hH : upd H2 q (.lst []) = H2 := by
    funext b
    by_cases hb : b = q
    · rw [hb, upd_same, hq2]
    · rw [upd_ne hb]
  rw [hH] at J3
  exact J3
end
end Fx
namespace Fx
open PySem PySem.Spec PyProof.Rows L2
/-! ### __init__ with one default -/
structure CalID (P : Program) (w : World) (K : PySem.W.Frag) (mg : Str → Option Value) (base : Heap) (CX : CXT) (k : Nat) (C : Addr) (ps : List Str) (dv : V) (sp : Sp) : Prop where
  ex : ∃ f fd ds, Mk K C f ∧ Binds K fd ps [] ∧ Vals [dv] ds ∧ Binds K fd ps ds ∧ FnOk P w K mg base CX k f fd ps sp
section
variable {P : Program} {w : World} {K : PySem.W.Frag} {mg : Str → Option Value} {base : Heap} {CX : CXT} {k : Nat} {C : Addr} {ps : List Str} {dv : V} {sp : Sp}
theorem CalID.full (M : CalID P w K mg base CX k C ps dv sp) : CalI P w K mg base CX k C ps sp := by
  obtain ⟨f, fd, ds, m, b, _, _, F⟩ := M.ex
  exact ⟨f, fd, m, b, F⟩
/-- how its parameters are bound: all are given; the last one lacks -/
abbrev BindD (x q : Str) (st : Stmt) (ps : List Str) (n j : Nat) : Prop := ∀ (T : Addr) (kV doc pm : Value) (an : Option Addr) (cdv ct : Value) (us its : List Value), us.length = n → its.length = 1 →
  ∃ k, bindArgs (PySem.W.fnOf x q (defArgs st) (defBody st) (defScope st) (.ref T) kV doc pm an cdv ct) ⟨us, []⟩ = seqItems? (.ref T) >>= k ∧ k (some its.toArray) = pure (ps.zip (us ++ its.drop j))
theorem calID_of {x q : Str} {st : Stmt} {f : Addr} {fd : FuncData} (F : FunD K x q (defArgs st) (defBody st) (defScope st) [dv] [] f fd) (M : Mk K C f) (n : Nat) (hn : n + 1 = ps.length) (b1 : BindD x q st ps (n + 1) 1) (b0 : BindD x q st ps n 0) (ok : FnOk P w K mg base CX k f fd ps sp) : CalID P w K mg base CX k C ps dv sp := by
  obtain ⟨ds1, v1, B1⟩ := F.binds1 (ps := ps) (n + 1) 1 (by simp) (by simpa using hn) b1
  obtain ⟨ds0, v0, B0⟩ := F.binds1 (ps := ps) n 0 (by simp) (by simpa using hn) b0
  have e : ds1 = [] := by
    cases v1
    rfl
  subst e
  exact ⟨f, fd, ds0, M, B1, v0, B0, ok⟩
theorem ok0D {x qual : Str} {st : Stmt} {N : List Str} {dvs : List V} {f : Addr} {fd : FuncData} (F : FunD K x qual (defArgs st) (defBody st) (defScope st) dvs [] f fd) (sc : FnScope N ps (defScope st)) (len : ∀ vs H Q E, sp vs H Q E → vs.length = ps.length)
    (hbody : ∀ (f : Addr) (cdv : Value) (A : Around) (outer : List Env) (s : Shared) (H : Hp) (vs : List V) (Q : VK) (E : XK), Room k (A.deeper (envOfC qual (defScope st) s.heap.objs.size f cdv)) → sp vs H Q E →
      ∃ t, PSs (cxOf CX0 P w K mg base N qual (defScope st) f cdv A outer s H E).nox (defBody st) t ∧ t { nx := fun _ H' => Q .non H', rt := Q } (L2.start N vs) H) : FnOk P w K mg base CX0 (k + 1) f fd ps sp := by
  refine F.ok sc len fun cdv A outer s H vs Q E hr hsp => ?_
  obtain ⟨t, h, q⟩ := hbody f cdv A outer s H vs Q E hr hsp
  exact ⟨t, h.nox, q⟩
theorem okXD {x qual : Str} {st : Stmt} {N : List Str} {dvs : List V} {f : Addr} {fd : FuncData} (F : FunD K x qual (defArgs st) (defBody st) (defScope st) dvs [] f fd) (sc : FnScope N ps (defScope st)) (len : ∀ vs H Q E, sp vs H Q E → vs.length = ps.length)
    (hbody : ∀ (f : Addr) (cdv : Value) (A : Around) (outer : List Env) (s : Shared) (H : Hp) (vs : List V) (Q : VK) (E : XK), Room k (A.deeper (envOfC qual (defScope st) s.heap.objs.size f cdv)) → sp vs H Q E →
      ∃ t, PSs (cxOf (L2.CX P w) P w K mg base N qual (defScope st) f cdv A outer s H E) (defBody st) t ∧ t { nx := fun _ H' => Q .non H', rt := Q } (L2.start N vs) H) : FnOk P w K mg base (L2.CX P w) (k + 1) f fd ps sp :=
  F.ok sc len fun cdv A outer s H vs Q E hr hsp => hbody f cdv A outer s H vs Q E hr hsp
end
section
variable {X : Cx} {x : Str} {C : Addr} {ps : List Str} {dv : V} {sp : Sp} {k : Nat} {CX : CXT} {E : XK} {e : Expr} {es : List Expr} {t : TA} {p pos : Pos}
/-- C(e, ..), the last one by its default -/
theorem pe_mkD (M : CalID X.prog X.w X.K X.mg X.base CX k C ps dv sp) (hr : Room (k + 1) X.A) (hm : X.mg x = some (.ref C)) (hx : Passes CX X E) (ha : PA X (e :: es) t) (hg : Gl X x := by rfl) (hdb : (x == ("__debug__" : Str)) = false := by decide)
    (hs : (e :: es).all nostar = true := by rfl) : PE X (.Call (.Name x p) (e :: es) [] pos) (tMake C sp [dv] E t) := by
  obtain ⟨f, fd, ds, m, _, vd, b, F⟩ := M.ex
  simp only [List.all_cons, Bool.and_eq_true] at hs
  exact pe_make m F hr hg hm b vd hx ha hdb (star_ok hs.1) (back_ok hs.2)
theorem pe_mkD0 (M : CalID X.prog X.w X.K X.mg X.base CX k C ps dv sp) (hr : Room (k + 1) X.A) (hm : X.mg x = some (.ref C)) (hx : Passes CX X E) (hg : Gl X x := by rfl) (hdb : (x == ("__debug__" : Str)) = false := by decide) : PE X (.Call (.Name x p) [] [] pos) (tMake C sp [dv] E tNil) := by
  obtain ⟨f, fd, ds, m, _, vd, b, F⟩ := M.ex
  exact pe_make0 m F hr hg hm b vd hx hdb
end
end Fx
/-! Lists and tuples of texts: sorted, in, index; list(dict) -/
namespace Fx
open PySem PySem.Spec PyProof.Rows L2
abbrev ms (l : List Str) : List V := l.map V.str
section
variable {X : Cx}
/-- sorted(xs), texts, any number of them -/
def rSortS : List V → Hp → VK → Prop := fun vs H Q => ∃ a, vs = [V.ref a] ∧ ∃ xs : List Str, H a = some (.lst (ms xs)) ∧ ∀ (ys : List Str) (p : Addr), ys.Perm xs → sortedS ys = true → H p = none → Q (.ref p) (upd H p (.lst (ms ys)))
theorem sort_S : CallR X (.builtin "sorted") rSortS := by
  intro pins s σ H vs us Q I r h
  obtain ⟨a, rfl, xs, hs, q⟩ := h
  obtain ⟨its, rv, hl, hz⟩ := I.list (xs := ms xs) (.inl (.inl hs))
  obtain ⟨u, rfl, ru⟩ := r.one
  cases ru
  have hlen0 := rv.length
  rw [List.length_map] at hlen0
  have hz2 : xs.length ≤ sizeLine := by
    have := hz
    rw [List.length_map] at this
    exact this
  refine PyProof.Rows.sorted_strsAny hl.isList rv.strs (by rw [← hlen0]; exact hz2) fun out ys h1 h2 h3 => ?_
  obtain ⟨ep, he'⟩ := PyProof.Rows.sortedAll_at s.heap its out
  have hlen : (ms ys).length ≤ sizeLine := by rw [List.length_map, h2.length_eq]; exact hz2
  exact ⟨.ref _, upd H (s.heap.objs.size + 1) (.lst (ms ys)), I.laid (t' := s.toks) (fun _ _ => PyProof.Rows.sortedAll_old) (Nat.le_succ _) ⟨hlen, out.toList, ep, vals_of_strs h1, he'⟩, rfl, q ys _ h2 h3 (I.hok.fresh (Nat.le_succ _))⟩
theorem flat_ms (l : List Str) : (ms l).all flatV = true := by
  rw [List.all_map]
  exact List.all_eq_true.mpr fun _ _ => rfl
theorem in_ms (z : Str) (l : List Str) : inV (.str z) (ms l) = decide (z ∈ l) := by
  unfold inV
  rw [List.any_map]
  induction l with
  | nil => rfl
  | cons x l ih =>
    rw [List.any_cons, ih]
    show ((x == z) || _) = _
    by_cases e : x = z
    · subst e
      simp
    · have e2 : ¬ z = x := fun h => e h.symm
      simp [e, e2]
/-- z in a list or tuple of texts -/
def rInS (neg : Bool) : R2 := fun x y H Q => ∃ z p, x = .str z ∧ y = .ref p ∧ ∃ l : List Str, Sq H p (ms l) ∧ Q (.bl (if neg = true then !decide (z ∈ l) else decide (z ∈ l))) H
theorem in_S : OpR X (compareOp .In) (rInS false) := by
  intro pins s σ H x y v u Q I rx ry h
  obtain ⟨z, p, rfl, rfl, l, hq, q⟩ := h
  refine op_in_seq pins s σ H _ _ v u Q I rx ry ⟨p, ms l, rfl, hq.elim (fun h => .inl (.inl (.inl h))) (fun h => .inr (.inl (.inl h))), rfl, flat_ms l, ?_⟩
  rw [in_ms]
  exact q
theorem notIn_S : OpR X (compareOp .NotIn) (rInS true) := by
  intro pins s σ H x y v u Q I rx ry h
  obtain ⟨z, p, rfl, rfl, l, hq, q⟩ := h
  refine op_notIn_seq pins s σ H _ _ v u Q I rx ry ⟨p, ms l, rfl, hq.elim (fun h => .inl (.inl (.inl h))) (fun h => .inr (.inl (.inl h))), rfl, flat_ms l, ?_⟩
  rw [in_ms]
  exact q
/-- l.index(z): the first place -/
theorem first_at {z : Str} : ∀ {l : List Str}, z ∈ l → ∃ j, l[j]? = some z ∧ (∀ m, m < j → l[m]? ≠ some z) ∧ j = l.idxOf z
  | x :: l, h => by
    by_cases e : x = z
    · subst e
      exact ⟨0, rfl, fun m hm => absurd hm (Nat.not_lt_zero _), by simp⟩
    · have h' : z ∈ l := (List.mem_cons.mp h).resolve_left fun k => e k.symm
      obtain ⟨j, h1, h2, h3⟩ := first_at h'
      refine ⟨j + 1, by simpa using h1, fun m hm => ?_, ?_⟩
      · cases m with
        | zero => simpa using e
        | succ m => simpa using h2 m (by omega)
      · have e2 : (x == z) = false := by simpa using e
        rw [List.idxOf_cons, e2, h3]
        rfl
def rIdxT : V → List V → Hp → VK → Prop := fun x xs H Q => ∃ p z, x = .ref p ∧ xs = [.str z] ∧ ∃ l : List Str, H p = some (.tup (ms l)) ∧ z ∈ l ∧ Q (.int (l.idxOf z : Nat)) H
theorem idx_T : MtR X "tuple.index" rIdxT := by
  intro pins s σ H x xs v us Q I rx rxs h
  obtain ⟨p, z, rfl, rfl, l, hp, hm, q⟩ := h
  obtain ⟨j, h1, h2, rfl⟩ := first_at hm
  exact mt_tup_index pins s σ H _ _ v us Q I rx rxs ⟨p, l, z, _, rfl, rfl, .inl (.inl hp), h1, h2, q⟩
def rIdxL : V → List V → Hp → VK → Prop := fun x xs H Q => ∃ p z, x = .ref p ∧ xs = [.str z] ∧ ∃ l : List Str, H p = some (.lst (ms l)) ∧ z ∈ l ∧ Q (.int (l.idxOf z : Nat)) H
theorem idx_L : MtR X "list.index" rIdxL := by
  intro pins s σ H x xs v us Q I rx rxs h
  obtain ⟨p, z, rfl, rfl, l, hp, hm, q⟩ := h
  obtain ⟨j, h1, h2, rfl⟩ := first_at hm
  refine mt_index pins s σ H _ _ v us Q I rx rxs ⟨p, ms l, .str z, _, .str z, rfl, rfl, .inl (.inl hp), rfl, flat_ms l, by rw [List.getElem?_map, h1]; rfl, by show (z == z) = true; simp, fun m y hm hy => ?_, q⟩
  rw [List.getElem?_map] at hy
  cases e : l[m]? with
  | none => rw [e] at hy; cases hy
  | some w =>
    rw [e] at hy
    have ey : y = .str w := (Option.some.inj hy).symm
    subst ey
    show (w == z) = false
    have : w ≠ z := fun k => h2 m hm (by rw [e, k])
    simpa using this
end
/-! ### sorted lists of texts, in plain words -/
def sle (a b : Str) : Prop := a.cps.toList ≤ b.cps.toList
theorem sle_trans {a b c : Str} (h1 : sle a b) (h2 : sle b c) : sle a c := List.le_trans h1 h2
theorem sle_anti {a b : Str} (h1 : sle a b) (h2 : sle b a) : a = b := by
  have e := List.le_antisymm h1 h2
  cases a with
  | mk x =>
    cases b with
    | mk y =>
      have e2 : x = y := Array.toList_inj.mp e
      rw [e2]
theorem sle_of {a b : Str} (h : (!ltCps b.cps.toList a.cps.toList) = true) : sle a b := by
  rw [ltCps_eq] at h
  have h2 : ¬ (b.cps.toList < a.cps.toList) := by simpa using h
  exact List.not_lt.mp h2
theorem rising_pw : ∀ {l : List Str} {p : Str}, risingS p l = true → (p :: l).Pairwise sle
  | [], p, _ => by simp
  | x :: l, p, h => by
    obtain ⟨h1, h2⟩ := Bool.and_eq_true_iff.mp h
    have ih := rising_pw h2
    have hpx := sle_of h1
    refine List.Pairwise.cons (fun y hy => ?_) ih
    rcases List.mem_cons.mp hy with rfl | hy
    · exact hpx
    · exact sle_trans hpx ((List.pairwise_cons.mp ih).1 y hy)
theorem sorted_pw {l : List Str} (h : sortedS l = true) : l.Pairwise sle := by
  cases l with
  | nil => exact .nil
  | cons x l => exact rising_pw h
theorem pw_uniq : ∀ {l l' : List Str}, l.Pairwise sle → l'.Pairwise sle → l.Perm l' → l = l'
  | [], l', _, _, h => (List.nil_perm.mp h).symm
  | x :: l, [], _, _, h => absurd h (by simp)
  | x :: l, y :: l', h1, h2, h => by
    have e : x = y := by
      have hx : x ∈ y :: l' := h.mem_iff.mp List.mem_cons_self
      have hy : y ∈ x :: l := h.mem_iff.mpr List.mem_cons_self
      rcases List.mem_cons.mp hx with e | hx
      · exact e
      · rcases List.mem_cons.mp hy with e | hy
        · exact e.symm
        · exact sle_anti ((List.pairwise_cons.mp h1).1 y hy) ((List.pairwise_cons.mp h2).1 x hx)
    subst e
    rw [pw_uniq (List.pairwise_cons.mp h1).2 (List.pairwise_cons.mp h2).2 ((List.perm_cons x).mp h)]
/-- sorted, without doubles, with the same members: the same list -/
theorem sorted_uniq {l l' : List Str} (h1 : sortedS l = true) (h2 : sortedS l' = true) (n1 : l.Nodup) (n2 : l'.Nodup) (hm : ∀ z, z ∈ l ↔ z ∈ l') : l = l' :=
  pw_uniq (sorted_pw h1) (sorted_pw h2) ((List.perm_ext_iff_of_nodup n1 n2).mpr hm)
end Fx
namespace Fx
open PySem PySem.Spec PyProof.Rows L2
section
variable {X : Cx}
/-- t[i], len(t), z in t of a tuple whose object is known -/
def rIxF : R2 := fun x y H Q => ∃ p i, x = .ref p ∧ y = .int i ∧ ∃ xs, FT H p xs ∧ ∃ v, atI xs i = some v ∧ Q v H
theorem ix_F : IxR X rIxF := IxR.imp ix_tup fun x y H Q ⟨p, i, e1, e2, xs, h, v, a, q⟩ => ⟨p, xs, i, v, e1, e2, h.sq, a, q⟩
def rLenF : List V → Hp → VK → Prop := fun xs H Q => ∃ p, xs = [.ref p] ∧ ∃ ys, FT H p ys ∧ Q (.int ys.length) H
theorem len_F : CallR X (.builtin "len") rLenF := CallR.imp call_len_seq fun xs H Q ⟨p, e, ys, h, q⟩ => ⟨p, ys, e, .inr h.sq, q⟩
def rInF (neg : Bool) : R2 := fun x y H Q => ∃ z p, x = .str z ∧ y = .ref p ∧ ∃ l : List Str, FT H p (ms l) ∧ Q (.bl (if neg = true then !decide (z ∈ l) else decide (z ∈ l))) H
theorem in_F : OpR X (compareOp .In) (rInF false) := by
  intro pins s σ H x y v u Q I rx ry h
  obtain ⟨z, p, rfl, rfl, l, hq, q⟩ := h
  refine op_in_seq pins s σ H _ _ v u Q I rx ry ⟨p, ms l, rfl, .inr hq.sq, rfl, flat_ms l, ?_⟩
  rw [in_ms]
  exact q
theorem notIn_F : OpR X (compareOp .NotIn) (rInF true) := by
  intro pins s σ H x y v u Q I rx ry h
  obtain ⟨z, p, rfl, rfl, l, hq, q⟩ := h
  refine op_notIn_seq pins s σ H _ _ v u Q I rx ry ⟨p, ms l, rfl, .inr hq.sq, rfl, flat_ms l, ?_⟩
  rw [in_ms]
  exact q
def rIdxF : V → List V → Hp → VK → Prop := fun x xs H Q => ∃ p z, x = .ref p ∧ xs = [.str z] ∧ ∃ l : List Str, FT H p (ms l) ∧ z ∈ l ∧ Q (.int (l.idxOf z : Nat)) H
theorem idx_F : MtR X "tuple.index" rIdxF := by
  intro pins s σ H x xs v us Q I rx rxs h
  obtain ⟨p, z, rfl, rfl, l, hp, hm, q⟩ := h
  obtain ⟨j, h1, h2, rfl⟩ := first_at hm
  exact mt_tup_index pins s σ H _ _ v us Q I rx rxs ⟨p, l, z, _, rfl, rfl, hp.sq, h1, h2, q⟩
/-- t.m(e, ..) -/
def tBMF (r : V → List V → Hp → VK → Prop) (to : TE) (t : TA) : TE := fun σ H Q => to σ H fun x H1 => ∃ p, x = .ref p ∧ (∃ xs, FT H1 p xs) ∧ t σ H1 fun vs H2 => r x vs H2 Q
variable {o e : Expr} {es : List Expr} {to : TE} {t : TA} {name : Str} {apos cpos : Pos} {id : String} {r : V → List V → Hp → VK → Prop}
theorem pe_bmF (slot : Slot "tuple" name id) (hty : typeOf (.builtin id) = pure (.type "method_descriptor")) (hm : MtR X id r) (ho : PE X o to) (ha : PA X (e :: es) t)
    (hbase : attributeBase o name X.env (eval o X.env) = eval o X.env := by rfl)
    (hfew : ((backTo cpos (starEach (e :: es) X.env)).all (fun x => !x.1) && (backToKw cpos (keywordEach [] X.env)).all (fun x => x.1.isSome)
      && decide ((e :: es).length + ([] : List Keyword).length + (if ([] : List Keyword).isEmpty then 0 else 1) < 30)) = true := by rfl)
    (hline : (apos.endLine == cpos.line) = true := by rfl) (hs : starEach (e :: es) X.env = (false, eval e X.env) :: starEach es X.env := by rfl) (hplain : (backTo cpos (starEach es X.env)).any (·.1) = false := by rfl) :
    PE X (.Call (.Attribute o name apos) (e :: es) [] cpos) (tBMF r to t) := by
  refine ⟨fun pins s σ H Q I h => ?_⟩
  refine wpAny_Call_method_late hbase hfew hline rfl (thn (ho.run pins s σ H _ I h) fun v s1 ⟨x, H1, I1, r1, p, ex, ⟨xs, ob, hp, hd⟩, q1⟩ => ?_)
  subst ex
  obtain rfl : v = Value.ref p := r1
  have hob := (I1.hok p _ hp).1
  obtain ⟨_, its, _, o2, ho2, hc2, _⟩ := (I1.hok p _ hp).2
  have eo : o2 = ob := by
    rw [hob] at ho2
    exact (Option.some.inj ho2).symm
  subst eo
  refine ⟨"tuple", id, PySem.F.plainAttrs_tuple, slot, hty, ⟨o2, hob, hc2⟩, fun a e => ?_, ?_⟩
  · cases e
    exact ⟨o2, hob, hd⟩
  have hA := ha.run cpos pins s1 σ H1 _ I1 q1
  rw [hs] at hA ⊢
  refine Calls.callWith_builtin (by show (false || (backTo cpos (starEach es X.env)).any (·.1)) = false; rw [hplain] <;> rfl) (Calls.evalArgs_plain ?_)
  exact thn hA fun us s2 ⟨vs, H2, I2, r2, q2⟩ => hm pins s2 σ H2 (.ref p) vs (.ref p) us Q I2 rfl r2 q2
/-- t == u -/
def rEqF : R2 := fun x y H Q => ∃ p q, x = .ref p ∧ y = .ref q ∧ ∃ xs ys, FT H p xs ∧ FT H q ys ∧ xs.all isF = true ∧ ys.all isF = true ∧ Q (.bl (decide (xs = ys))) H
theorem eq_FF (hu : X.A.units + 64 < cLine) : OpR X (compareOp .Eq) rEqF := by
  intro pins s σ H x y v u Q I rx ry h
  obtain ⟨p, q, rfl, rfl, xs, ys, hp, hq, fx, fy, k⟩ := h
  refine op_eqD hu pins s σ H _ _ v u Q I rx ry ⟨.tuple (xs.map datV), .tuple (ys.map datV), .tup hp.sq (dpAll_dat fx), .tup hq.sq (dpAll_dat fy), shaped_flatT fx, shaped_flatT fy, ?_⟩
  rw [PyData.eqv, eqvAll_dat fx fy]
  exact k
end
theorem ms_inj {a b : List Str} : ms a = ms b ↔ a = b := by
  constructor
  · intro h
    induction a generalizing b with
    | nil => cases b with
      | nil => rfl
      | cons y b => cases h
    | cons x a ih => cases b with
      | nil => cases h
      | cons y b =>
        simp only [ms, List.map_cons, List.cons.injEq, V.str.injEq] at h
        rw [h.1, ih h.2]
  · intro h
    rw [h]
end Fx
namespace Fx
open PySem PySem.Spec PyProof.Rows L2
/-- e.f with the written part named: inside a comprehension the reading must not lean on its context -/
theorem pe_fldK {X : Cx} {K : PySem.W.Frag} {e : Expr} {f : Str} {ta : TE} {pos : Pos} (hK : X.K = K) (he : PE X e ta) (hb : attributeBase e f X.env (eval e X.env) = eval e X.env) : PE X (.Attribute e f pos) (tFld K ta f) := by
  subst hK
  exact pe_fld he hb
end Fx
/-! Data that repr shows: rows of little data -/
namespace Fx
open PySem PySem.Spec PyProof.Rows L2
/-- little data: depth and shown length -/
structure Sm (d : PyData) (m k : Nat) : Prop where
  sh : d.showable = true
  nd : d.hasDict = false
  dep : d.depth ≤ m
  len : d.shown.length ≤ k
  ok : PyData.strOk d.shown = true
theorem Sm.mono {d : PyData} {m k m' k' : Nat} (h : Sm d m k) (hm : m ≤ m') (hk : k ≤ k') : Sm d m' k' := ⟨h.sh, h.nd, Nat.le_trans h.dep hm, Nat.le_trans h.len hk, h.ok⟩
theorem ok_app {a b : Str} (ha : PyData.strOk a = true) (hb : PyData.strOk b = true) : PyData.strOk (a ++ b) = true := by
  unfold PyData.strOk at *
  show (a.cps ++ b.cps).all _ = true
  rw [Array.all_append, ha, hb]
  rfl
theorem textFrom_ok : ∀ (ts : List Str) (n : Nat) (h : Str), (∀ t ∈ ts, PyData.strOk t = true) → PyData.strOk h = true → PyData.strOk (textFrom n h ts) = true
  | [], _, h, _, hh => hh
  | t :: ts, n, h, ht, hh => by
    have h1 := ht t List.mem_cons_self
    have c : PyData.strOk ", " = true := by decide +kernel
    unfold textFrom
    refine textFrom_ok ts _ _ (fun x hx => ht x (List.mem_cons_of_mem _ hx)) ?_
    first
    | (split
       · exact ok_app (ok_app hh c) h1
       · exact ok_app hh h1)
    | exact ok_app (ok_app hh c) h1
theorem listText_ok {ts : List Str} (ht : ∀ t ∈ ts, PyData.strOk t = true) : PyData.strOk (listText ts) = true := ok_app (textFrom_ok ts 0 "[" ht (by decide +kernel)) (by decide +kernel)
theorem sum_le {ts : List Str} {k : Nat} (h : ∀ t ∈ ts, t.length ≤ k) : (ts.map (·.length)).sum ≤ ts.length * k := by
  induction ts with
  | nil => simp
  | cons t ts ih =>
    rw [List.map_cons, List.sum_cons, List.length_cons, Nat.add_mul]
    have := ih fun x hx => h x (List.mem_cons_of_mem _ hx)
    have := h t List.mem_cons_self
    omega
theorem smAll {ds : List PyData} {m k : Nat} (h : ∀ d ∈ ds, Sm d m k) : PyData.showableAll ds = true ∧ PyData.hasDictAll ds = false ∧ PyData.depthAll ds ≤ m := by
  induction ds with
  | nil => exact ⟨by simp [PyData.showableAll], by simp [PyData.hasDictAll], by simp [PyData.depthAll]⟩
  | cons d ds ih =>
    obtain ⟨h1, h2, h3⟩ := ih fun x hx => h x (List.mem_cons_of_mem _ hx)
    have hd := h d List.mem_cons_self
    refine ⟨by simp only [PyData.showableAll, hd.sh, h1, Bool.and_self], by simp only [PyData.hasDictAll, hd.nd, h2, Bool.or_self], ?_⟩
    simp only [PyData.depthAll]
    exact Nat.max_le.mpr ⟨hd.dep, h3⟩
theorem sm_list {ds : List PyData} {m k : Nat} (h : ∀ d ∈ ds, Sm d m k) : Sm (.list ds) (m + 1) (ds.length * (k + 2) + 3) := by
  obtain ⟨h1, h2, h3⟩ := smAll h
  have hall : ∀ t ∈ PyData.shownAll ds, t.length ≤ k ∧ PyData.strOk t = true := by
    rw [shownAll_eq_map]
    intro t ht
    obtain ⟨d, hd, rfl⟩ := List.mem_map.mp ht
    exact ⟨(h d hd).len, (h d hd).ok⟩
  refine ⟨by simp only [PyData.showable, h1], by simp only [PyData.hasDict, h2], by simp only [PyData.depth]; omega, ?_, ?_⟩
  · simp only [PyData.shown]
    have a := listText_len_le (PyData.shownAll ds)
    have b := sum_le fun t ht => (hall t ht).1
    have c := PyData.shownAll_length ds
    rw [c] at a b
    have e : ds.length * (k + 2) = ds.length * k + ds.length * 2 := Nat.mul_add ..
    omega
  · simp only [PyData.shown]
    exact listText_ok fun t ht => (hall t ht).2
theorem join_ok : ∀ {ts : List Str}, (∀ t ∈ ts, PyData.strOk t = true) → PyData.strOk (Str.join ", " ts) = true
  | [], _ => by decide +kernel
  | [t], h => h t List.mem_cons_self
  | t :: u :: ts, h => ok_app (ok_app (h t List.mem_cons_self) (by decide +kernel)) (join_ok fun x hx => h x (List.mem_cons_of_mem _ hx))
theorem sm_tuple {ds : List PyData} {m k : Nat} (h : ∀ d ∈ ds, Sm d m k) : Sm (.tuple ds) (m + 1) (ds.length * (k + 2) + 3) := by
  obtain ⟨h1, h2, h3⟩ := smAll h
  have hall : ∀ t ∈ PyData.shownAll ds, t.length ≤ k ∧ PyData.strOk t = true := by
    rw [shownAll_eq_map]
    intro t ht
    obtain ⟨d, hd, rfl⟩ := List.mem_map.mp ht
    exact ⟨(h d hd).len, (h d hd).ok⟩
  refine ⟨by simp only [PyData.showable, h1], by simp only [PyData.hasDict, h2], by simp only [PyData.depth]; omega, ?_, ?_⟩
  · simp only [PyData.shown]
    have a := tupleText_len_le (PyData.shownAll ds)
    have b := sum_le fun t ht => (hall t ht).1
    have c := PyData.shownAll_length ds
    rw [c] at a b
    have e : ds.length * (k + 2) = ds.length * k + ds.length * 2 := Nat.mul_add ..
    omega
  · simp only [PyData.shown]
    unfold tupleText
    have j := join_ok fun t ht => (hall t ht).2
    have o : PyData.strOk "(" = true := by decide +kernel
    have c1 : PyData.strOk ",)" = true := by decide +kernel
    have c2 : PyData.strOk ")" = true := by decide +kernel
    split
    · exact ok_app (ok_app o j) c1
    · exact ok_app (ok_app o j) c2
theorem Sm.shw {K : PySem.W.Frag} {H : Hp} {v : V} {d : PyData} {m k : Nat} (h : Sm d m k) (hd : Dp K H v d) (hm : m ≤ 50) (hk : k ≤ 1000000) : Shw K H v d := ⟨hd, h.sh, h.nd, Nat.le_trans h.dep hm, Nat.le_trans h.len (Nat.le_trans hk (by decide)), h.ok⟩
theorem dpAll_app {K : PySem.W.Frag} {H : Hp} : ∀ {xs : List V} {ds : List PyData} {ys : List V} {es : List PyData}, DpAll K H xs ds → DpAll K H ys es → DpAll K H (xs ++ ys) (ds ++ es)
  | _, _, _, _, .nil, h => h
  | _, _, _, _, .cons h r, h2 => .cons h (dpAll_app r h2)
theorem dpAll_ms {K : PySem.W.Frag} {H : Hp} : ∀ l : List Str, DpAll K H (ms l) (l.map .str)
  | [] => .nil
  | z :: l => .cons (.str z) (dpAll_ms l)
theorem dpAll_ints {K : PySem.W.Frag} {H : Hp} : ∀ l : List Int, DpAll K H (l.map V.int) (l.map .int)
  | [] => .nil
  | z :: l => .cons (.int z) (dpAll_ints l)
theorem ofString_ok (s : String) : PyData.strOk (Str.ofString s) = true := by
  unfold PyData.strOk
  rw [PySem.Str.ofString_eq_toList, ← Array.all_toList, List.all_eq_true]
  intro x hx
  have hx2 : x ∈ s.toList.map Char.toNat := by simpa using hx
  obtain ⟨c, _, rfl⟩ := List.mem_map.mp hx2
  have h := c.valid
  unfold UInt32.isValidChar Nat.isValidChar at h
  have e : c.toNat = c.val.toNat := rfl
  rw [e]
  exact decide_eq_true (by omega)
theorem sm_int {i : Int} (h1 : -999999999999 ≤ i) (h2 : i ≤ 999999999999) : Sm (.int i) 0 13 := by
  refine ⟨?_, by simp [PyData.hasDict], by simp [PyData.depth], PyData.shown_int_le2 h1 h2, ?_⟩
  · simp only [PyData.showable]
    exact decide_eq_true (Nat.lt_trans (PySem.Flt.log2_lt_of (k := 64) (by decide) (show i.natAbs < 2 ^ 64 by omega)) (by decide))
  · simp only [PyData.shown]
    exact ofString_ok _
theorem sm_non : Sm .none 0 4 := ⟨by decide, by decide, by decide, by decide, by decide +kernel⟩
theorem sm_bl (b : Bool) : Sm (.bool b) 0 5 := by cases b <;> exact ⟨by decide, by decide, by decide, by decide, by decide +kernel⟩
theorem repr_char : ∀ c < 256, ∀ q ∈ [34, 39], (PySem.Builtin.Str.reprChar q c).all (· < 0x110000) = true := by decide +kernel
theorem sm_str {z : Str} (h : ∀ c ∈ z.cps.toList, c < 256) : Sm (.str z) 0 (10 * z.length + 2) := by
  refine ⟨by simp [PyData.showable], by simp [PyData.hasDict], by simp [PyData.depth], by simp only [PyData.shown]; exact StrLaws.reprText_len z fun c hc => Nat.lt_trans (h c hc) (by decide), ?_⟩
  simp only [PyData.shown]
  have hq : reprQuote z ∈ [34, 39] := by
    unfold reprQuote
    split <;> simp
  have hq2 : decide (reprQuote z < 0x110000) = true := by
    rcases (by simpa using hq : reprQuote z = 34 ∨ reprQuote z = 39) with e | e <;> rw [e] <;> rfl
  have key : ∀ (l : List Nat) (acc : Array Nat), (∀ c ∈ l, c < 256) → acc.all (· < 0x110000) = true → (l.foldl (fun out c => out ++ (PySem.Builtin.Str.reprChar (reprQuote z) c).toArray) acc).all (· < 0x110000) = true := by
    intro l
    induction l with
    | nil => intro acc _ h; exact h
    | cons c l ih =>
      intro acc hl ha
      rw [List.foldl_cons]
      refine ih _ (fun x hx => hl x (List.mem_cons_of_mem _ hx)) ?_
      rw [Array.all_append, ha, ← Array.all_toList]
      exact repr_char c (hl c List.mem_cons_self) _ hq
  unfold PyData.strOk reprText
  show ((z.cps.foldl (fun out c => out ++ (PySem.Builtin.Str.reprChar (reprQuote z) c).toArray) #[reprQuote z]).push (reprQuote z)).all _ = true
  rw [Array.all_push, ← Array.foldl_toList, key z.cps.toList _ h (by simpa using hq2), hq2]
  rfl
end Fx
/-! Sets of texts: {e for x in xs}, sorted of them -/
namespace Fx
open PySem PySem.Spec PyProof.Rows L2
theorem is_self (z : Str) (tk : Tok) : keyIs (.inr z) (.str z tk) = true := by
  show (z == z) = true
  simp
def zOf (e : Int × Value) : Str := match e.2 with
  | .str z _ => z
  | _ => ""
def TxtE (w : World) (e : Int × Value) : Prop := ∃ z tk, e.2 = Value.str z tk ∧ e.1 = keyH w (.inr z)
/-- the set of texts at a; L its members, each once -/
def SetS (w : World) (h : Heap) (a : Addr) (L : List Str) : Prop := ∃ (o : Obj) (es : Array (Int × Value)) (ep : Nat) (t : SetTable), h.get? a = some o ∧ o.ExactSet ∧ o.data = .set es ep t ∧ (∀ e ∈ es.toList, TxtE w e) ∧
  (es.toList.map zOf).Perm L ∧ L.Nodup ∧ es.size < scanBound ∧ t.fits es.size = true ∧ Ris t.place.toList ∧ (w.params.followText "set-order" = true ∨ t.led = true)
section
variable {P : Program} {w : World} {A : Around} {E : Value → Shared → Prop} {s : Shared} {h h' : Heap} {a : Addr} {L : List Str}
theorem SetS.keep (R : SetS w h a L) (k : ∀ o, h.get? a = some o → h'.get? a = some o) : SetS w h' a L := let ⟨o, es, ep, t, ho, r⟩ := R; ⟨o, es, ep, t, k o ho, r⟩
theorem mem_z {l : List (Int × Value)} (g : ∀ e ∈ l, TxtE w e) (z : Str) : z ∈ l.map zOf ↔ ∃ e ∈ l, (mixKind P w).is (.inr z) e.2 = true := by
  constructor
  · intro hz
    obtain ⟨e, he, ez⟩ := List.mem_map.mp hz
    obtain ⟨y, tk, e1, e2⟩ := g e he
    have ey : zOf e = y := by unfold zOf; rw [e1]
    refine ⟨e, he, ?_⟩
    rw [e1, ← ez, ey]
    exact is_self y tk
  · rintro ⟨e, he, hi⟩
    obtain ⟨y, tk, e1, e2⟩ := g e he
    refine List.mem_map.mpr ⟨e, he, ?_⟩
    rcases keyIs_shape (k := .inr z) (v := e.2) hi with ⟨i, t, k1, k2⟩ | ⟨x, t, k1, k2⟩
    · cases k1
    · cases k1
      unfold zOf
      rw [k2]
theorem elems_z {l : List (Int × Value)} (g : ∀ e ∈ l, TxtE w e) : ElemsOf (mixKind P w) l := fun e he => by
  obtain ⟨z, tk, h1, h2⟩ := g e he
  exact ⟨⟨.inr z, by rw [h1]; exact is_self z tk, h2⟩, by rw [h1] <;> rfl⟩
theorem putS_at {o : Obj} {es es' : Array (Int × Value)} {ep : Nat} {t t' : SetTable} (ho : h.get? a = some o) (hd : o.data = .set es ep t) : (h.update a (Obj.putSet es' t')).get? a = some { o with data := .set es' (ep + 1) t' } := by
  have q := Heap.get?_update_self (Obj.putSet es' t') ho (by rw [putSet_of es' t' hd] <;> rfl)
  rwa [putSet_of es' t' hd] at q
theorem addS_tail {g : Bool → Sem Unit} {o : Obj} {es es1 : Array (Int × Value)} {ep : Nat} {t t2 : SetTable} {L1 : List Str} {wasDummy : Bool} {R : Option Bool → Shared → Prop}
    (hg : ∀ (b : Bool) (s₁ : Shared) (Q' : Unit → Shared → Prop), Q' () s₁ → wpAny (model P w) A (g b) Q' E s₁) (ho : s.heap.get? a = some o) (hex : o.ExactSet) (hd : o.data = .set es ep t) (g1 : ∀ e ∈ es1.toList, TxtE w e)
    (p1 : (es1.toList.map zOf).Perm L1) (nd1 : L1.Nodup) (hb1 : es1.size < scanBound) (hf2 : t2.fits es1.size = true) (hr : Ris t2.place.toList) (hl : w.params.followText "set-order" = true ∨ t2.led = true)
    (hR : ∀ h', Heap.SameBut a s.heap h' → SetS w h' a L1 → R (some true) { s with heap := h' }) :
    wpAny (model P w) A (do
      storeSet a es1 t2
      if (!wasDummy && t2.tooFull) = true then do g (relayAll t2 es1 (SetTable.grown es1.size)).2.2; storeSet a (relayAll t2 es1 (SetTable.grown es1.size)).1 (relayAll t2 es1 (SetTable.grown es1.size)).2.1; pure (some true)
      else pure (some true)) R E s := by
  have ho1 := putS_at (es' := es1) (t' := t2) ho hd
  have b1 := Heap.SameBut.update s.heap a (Obj.putSet es1 t2)
  refine wpAny_bind (wpAny_storeSet_of ho hd ?_ (fits_of_scanBound hb1))
  split
  · have pm := relayAll_perm t2 es1 (SetTable.grown es1.size)
    have hf3 := relayAll_fits t2 es1 (SetTable.grown es1.size)
    have hr3 := relayAll_ris t2 es1 (SetTable.grown es1.size)
    have hl3 := relayAll_led t2 es1 (SetTable.grown es1.size)
    rcases hZ : relayAll t2 es1 (SetTable.grown es1.size) with ⟨es2, t3, gave⟩
    rw [hZ] at pm hf3 hr3 hl3
    dsimp only at pm hf3 hr3 hl3 ⊢
    have hsz : es2.size = es1.size := by rw [← Array.length_toList, pm.length_eq, Array.length_toList]
    have hb2 : es2.size < scanBound := hsz ▸ hb1
    refine wpAny_bind (hg _ _ _ (wpAny_bind (wpAny_storeSet_of ho1 rfl ?_ (fits_of_scanBound hb2))))
    refine wpAny_pure (hR _ (b1.trans (Heap.SameBut.update _ a _)) ⟨_, es2, _, t3, putS_at (es' := es2) (t' := t3) ho1 rfl, hex, rfl, fun e he => g1 e (pm.mem_iff.mp he), (pm.map zOf).trans p1, nd1, hb2, hf3, hr3, hl.imp id fun z => ?_⟩)
    rw [hl3]
    exact z
  · exact wpAny_pure (hR _ b1 ⟨_, es1, _, t2, ho1, hex, rfl, g1, p1, nd1, hb1, hf2, hr, hl⟩)
/-- with one more -/
def plus (L : List Str) (z : Str) : List Str := if z ∈ L then L else z :: L
theorem addS_hashed {z : Str} {tk : Tok} {Q : Bool → Shared → Prop} (R : SetS w s.heap a L) (room : L.length + 1 < scanBound)
    (hQ : ∀ h' b, Heap.SameBut a s.heap h' → SetS w h' a (plus L z) → Q b { s with heap := h' }) : wpAny (model P w) A (setAddHashed a (.str z tk) ((mixKind P w).hash (.inr z))) Q E s := by
  obtain ⟨o, es, ep, t, ho, hex, hd, g, pL, nd, hb, hf, hr, hl⟩ := R
  have hkey : (mixKind P w).is (.inr z) (.str z tk) = true := is_self z tk
  have hsc : (Value.str z tk).scannable = true := rfl
  have hel : ElemsOf (mixKind P w) es.toList := elems_z g
  have hn : es.size = L.length := by rw [← Array.length_toList, ← List.length_map (f := zOf), pL.length_eq]
  unfold setAddHashed setAddHashedIn
  refine wpAny_holding (wpAny_bind (wpAny_setState_of ho hd hf ?_))
  dsimp only
  rw [byScan_of hsc hb hel, if_pos rfl]
  unfold setAddByScan
  refine wpAny_bind (wpAny_bind (wpAny_rule (wpAny_bind (wpAny_setScan_of hkey ho hd hf hel ?_))))
  cases hfi : List.findIdx? (fun e => (mixKind P w).is (.inr z) e.2) es.toList with
  | some j =>
    dsimp only
    obtain ⟨hj, pj, _⟩ := List.findIdx?_eq_some_iff_getElem.mp hfi
    have hz : z ∈ L := pL.mem_iff.mp ((mem_z (P := P) g z).mpr ⟨es.toList[j], List.getElem_mem hj, pj⟩)
    refine wpAny_pure (wpAny_pure (hQ s.heap _ (Heap.SameBut.refl a s.heap) ?_))
    unfold plus
    rw [if_pos hz]
    exact ⟨o, es, ep, t, ho, hex, hd, g, pL, nd, hb, hf, hr, hl⟩
  | none =>
    dsimp only
    have hz : z ∉ L := fun k => by
      obtain ⟨e, he, q⟩ := (mem_z (P := P) g z).mp (pL.mem_iff.mpr k)
      exact Bool.noConfusion ((List.findIdx?_eq_none_iff.mp hfi e he).symm.trans q)
    have hgw : ∀ (b : Bool) {s₁ : Shared} {Q' : Unit → Shared → Prop}, Q' () s₁ → wpAny (model P w) A (match b with | true => rule "set.scan.the-table-gave-way" | false => pure ()) Q' E s₁ := by
      intro b s₁ Q' q
      cases b
      · exact wpAny_pure q
      · exact wpAny_rule q
    have pm := layNew_perm t es ((mixKind P w).hash (.inr z)) (.str z tk)
    have hf1 := layNew_fits t es ((mixKind P w).hash (.inr z)) (.str z tk)
    have hr1 := layNew_ris t es ((mixKind P w).hash (.inr z)) (.str z tk) hr
    have hl1 := layNew_led t es ((mixKind P w).hash (.inr z)) (.str z tk)
    rcases hZ : layNew t es ((mixKind P w).hash (.inr z)) (.str z tk) with ⟨es1, t1, wasDummy, gave⟩
    rw [hZ] at pm hf1 hr1 hl1
    dsimp only at pm hf1 hr1 hl1 ⊢
    rw [Array.toList_push] at pm
    have pc : es1.toList.Perm (((mixKind P w).hash (.inr z), Value.str z tk) :: es.toList) := pm.trans (List.perm_append_singleton _ _)
    have pk : (es1.toList.map zOf).Perm (z :: L) := (pc.map zOf).trans (pL.cons z)
    have g1 : ∀ e ∈ es1.toList, TxtE w e := by
      intro e he
      rcases List.mem_cons.mp (pc.mem_iff.mp he) with q | q
      · exact q ▸ ⟨z, tk, rfl, rfl⟩
      · exact g e q
    have nd1 : (z :: L).Nodup := List.nodup_cons.mpr ⟨hz, nd⟩
    have hb1 : es1.size < scanBound := by rw [← Array.length_toList, pc.length_eq, List.length_cons, Array.length_toList, hn]; exact room
    have hled : w.params.followText "set-order" = true ∨ t1.led = true := hl.imp id fun q => by rw [hl1]; exact q
    have fin : ∀ h' b, Heap.SameBut a s.heap h' → SetS w h' a (z :: L) → Q b { s with heap := h' } := fun h' b sb r => hQ h' b sb (by unfold plus; rw [if_neg hz]; exact r)
    refine wpAny_bind (hgw _ ?_)
    split
    · refine wpAny_bind ?_
      rw [hashByValue_scannable 8 hsc]
      refine wpAny_pure ?_
      refine addS_tail (fun b s₁ Q' q => hgw b q) ho hex hd g1 pk nd1 hb1 ?_ ?_ ?_ fun h' sb r => ?_
      · first
        | exact hf1
        | (split
           · first | exact hf1 | exact SetTable.fits_plain_off hf1
           · first | exact hf1 | exact SetTable.fits_plain_off hf1)
      · first | exact hr1 | (split <;> exact hr1)
      · first | exact hled | (split <;> exact hled)
      · dsimp only
        exact wpAny_pure (fin h' _ sb r)
    · refine wpAny_bind (wpAny_pure ?_)
      simp only [↓reduceIte]
      exact addS_tail (fun b s₁ Q' q => hgw b q) ho hex hd g1 pk nd1 hb1 hf1 hr1 hled fun h' sb r => by dsimp only; exact wpAny_pure (fin h' _ sb r)
end
/-- found.add(z) -/
theorem addS {P : Program} {w : World} {A : Around} {E : Value → Shared → Prop} {s : Shared} {a : Addr} {L : List Str} {z : Str} {tk : Tok} {Q : Value → Shared → Prop} (R : SetS w s.heap a L) (room : L.length + 1 < scanBound)
    (hQ : ∀ h', Heap.SameBut a s.heap h' → SetS w h' a (plus L z) → Q .none { s with heap := h', toks := s.toks + 1 }) : wpAny (model P w) A (call (.builtin "set.add") [.ref a, .str z tk]) Q E s := by
  have ty : s.TypeIs (.ref a) "set" := let ⟨o, _, _, _, ho, hex, _⟩ := R; ⟨o, ho, hex.1⟩
  refine wpAny_call_entry PySem.F.slot_set_add ty PySem.F.entry_set_add ?_ (PySem.F.args_set_add_2 _ _)
  unfold Builtin.«set.add» Builtin.Frozenset.oneOther
  simp only [List.isEmpty_nil, bind_assoc]
  unfold Builtin.Frozenset.addrOf setAdd
  refine wpAny_bind (wpAny_pure ?_)
  try dsimp only
  refine wpAny_bind (wpAny_pure ?_)
  try dsimp only
  refine wpAny_bind (wpAny_holding (wpAny_bind ((mixKind P w).pyHash (k := .inr z) (is_self z tk) ?_)))
  exact addS_hashed (s := { s with toks := s.toks + 1 }) R room fun h' b sb r => wpAny_pure ⟨_, rfl, hQ h' sb r⟩
theorem freshS {h : Heap} (w : World) : SetS w (h.push { cls := .type "set", dict := none, data := .set #[] 0 (.fresh 0 0 (!w.params.followText "set-order")) }) h.objs.size [] := by
  refine ⟨_, #[], 0, _, Heap.get?_push_size _ rfl, ⟨rfl, rfl, rfl⟩, rfl, fun e he => by simp at he, .refl _, .nil, by decide, by rfl, List.Pairwise.nil, ?_⟩
  show w.params.followText "set-order" = true ∨ (!w.params.followText "set-order") = true
  cases w.params.followText "set-order" <;> simp
/-- the set of texts at a, as a tracked thing -/
def SetSO (w : World) (a : Addr) (L : List Str) : HO := .ext fun h => SetS w h a L
theorem setSO_ok {w : World} {P : Program} {H : Hp} {h : Heap} {a : Addr} {L : List Str} (R : SetS w h a L) : ObjOk P w H h a (SetSO w a L) := ⟨R, let ⟨o, _, _, _, ho, _⟩ := R; ⟨o, ho⟩, fun _ _ p k => SetS.keep p k⟩
theorem setSO_at {X : Cx} {pins : List (Addr × Obj)} {σ : L2.St} {H : Hp} {s : Shared} {a : Addr} {L : List Str} (I : Inv X pins σ H s) (ha : H a = some (SetSO X.w a L)) : SetS X.w s.heap a L := (I.hok a _ ha).1
theorem addSO {X : Cx} {pins : List (Addr × Obj)} {σ : L2.St} {H : Hp} {s : Shared} {E : Value → Shared → Prop} {D : Addr} {L : List Str} {z : Str} {tk : Tok} {Q : Value → Shared → Prop} (I : Inv X pins σ H s) (hD : H D = some (SetSO X.w D L)) (room : L.length + 1 < scanBound)
    (h : ∀ s', Inv X pins σ (upd H D (SetSO X.w D (plus L z))) s' → Q .none s') : wpAny (model X.prog X.w) X.A (call (.builtin "set.add") [.ref D, .str z tk]) Q E s := by
  refine addS (setSO_at I hD) room fun h' sb new => h _ (I.write (e := D) (t' := s.toks + 1) (by rw [hD]; trivial) (.inl rfl) (fun b u hb hu => (sb.2 b hb).trans hu) ?_ (setSO_ok new))
  obtain ⟨o, _, _, _, ho, _⟩ := new
  exact ⟨o, ho⟩
/-- {elt for target in iter if ..}, texts: D the new set -/
def tScS (w : World) (wi : TI) (g : TG) (tt : TT) (te : TE) (vs : List Nat) : TE := fun σ H Q => wi σ H fun J H1 => ∀ D, H1 D = none → ∃ W : Nat → Nat → Hp → Prop, (∃ m, W 0 m (upd H1 D (SetSO w D []))) ∧ ∀ i m H, W i m H →
  (J.stop i H ∧ Q (.ref D) H) ∨ (J.go i H ∧ ∃ Nx : Hp → Prop, (∀ H', Nx H' → ∃ m', m' < m ∧ W (i + 1) m' H') ∧ ∀ x H', J.yld i H x H' → g x (wipe σ vs) H' fun σ2 H2 => wipe σ2 vs = wipe σ vs ∧ tt σ2 H2 fun b H3 =>
    if b = true then te σ2 H3 fun y H4 => ∃ (z : Str) (L : List Str), y = .str z ∧ H4 D = some (SetSO w D L) ∧ L.length + 1 < scanBound ∧ Nx (upd H4 D (SetSO w D (plus L z))) else Nx H3)
section
variable {X : Cx} {elt tg iter : Expr} {ifs : List Expr} {scope : Scope} {own : List (PySem.Str × Nat)} {pos : Pos} {wi : TI} {g : TG} {tt : TT} {te : TE}
theorem coreS {pins : List (Addr × Obj)} {s : Shared} {σ : L2.St} {H : Hp} {Q : VK} {pos' : Pos} {use : Option (Value → Sem Unit)} {Qf : Value → Shared → Prop} (hc : X.calm = true) (hN : X.N.Nodup) (I : Inv X pins σ H s) (hi : PI X tg iter wi) (ok : BlkOk X.N X.env.scope scope own)
    (hg : ∀ (s : Shared) (H : Hp) (C : Addr) (cl : List (PySem.Str × Addr)) (fp : List Addr), PG (X.blk s H scope (compEnvC scope cl C X.env) fp) tg g)
    (ht : ∀ (s : Shared) (H : Hp) (C : Addr) (cl : List (PySem.Str × Addr)) (fp : List Addr), PTs (X.blk s H scope (compEnvC scope cl C X.env) fp) ifs tt)
    (he : ∀ (s : Shared) (H : Hp) (C : Addr) (cl : List (PySem.Str × Addr)) (fp : List Addr), PE (X.blk s H scope (compEnvC scope cl C X.env) fp) elt te) (hs : ∀ x, foldedSetIterable iter X.env x = pure x) (h : tScS X.w wi g tt te (own.map (·.2)) σ H Q)
    (hRR : ∀ D C s' m H', Inv X pins σ H' s' → Q (.ref D) H' → s'.heap.Ns C m → FpOk X pins H' C → compPost (model X.prog X.w) X.A X.xe use Qf (.ref D) C (.ok .next) s') :
    wpAny (model X.prog X.w) X.A (comprehension (.SetComp elt [⟨tg, iter, ifs, 0⟩] scope pos) scope X.env pos' (newSet (.type "set")) false (eval iter X.env) use) Qf X.xe s := by
  have fr : ∀ y ∈ scope.names, y.2 = .free → ∃ c, X.env.cells.lookup y.1 = some c := fun y hy e => by
    rcases ok.free y hy e with k | k <;> exact I.ok.has _ (by first | exact .inl k | exact .inr k)
  refine wpAny_comprehension_free (use := use) rfl hs (closure_ok fr) ok.kind (fun y hy e => by rw [ok.uniq y hy, e]) (thn (hi.run pins s σ H _ I h) fun xv s1 hx => thn hx fun itv s2 h2 => ?_)
  obtain ⟨it, fp, tn, J, H2, rfl, I2, T, st2, f2, q⟩ := h2
  refine PpSet.newSet_ok (newEnv_comp ?_)
  generalize hD : s2.heap.objs.size = D
  have hDn : H2 D = none := I2.hok.fresh (Nat.le_of_eq hD)
  obtain ⟨W, ⟨m0, w0⟩, turn⟩ := q D hDn
  generalize hs3 : ({ s2 with heap := s2.heap.push { cls := .type "set", dict := none, data := .set #[] 0 (.fresh 0 0 (!X.w.params.followText "set-order")) } } : Shared) = s3
  have h3 : s3.heap = s2.heap.push { cls := .type "set", dict := none, data := .set #[] 0 (.fresh 0 0 (!X.w.params.followText "set-order")) } := hs3 ▸ rfl
  have I3 : Inv X pins σ (upd H2 D (SetSO X.w D [])) s3 := by
    subst hs3
    refine I2.laid (t' := s2.toks) (fun b o e => Heap.get?_push_of_some _ e) (Nat.le_of_eq hD) ?_
    subst hD
    exact setSO_ok (freshS X.w)
  have sz : ∀ b ∈ fp, b < s2.heap.objs.size := fun b hb => let ⟨o, e, _⟩ := T.obj _ _ st2 b hb; Heap.lt_size e
  have f3 : ∀ b ∈ fp, FpOk X pins (upd H2 D (SetSO X.w D [])) b ∧ b < s3.heap.objs.size := fun b hb => by
    have lt := sz b hb
    refine ⟨⟨?_, (f2 b hb).2⟩, by rw [h3, Heap.size_push]; exact Nat.lt_succ_of_lt lt⟩
    rw [upd_ne (by rw [← hD]; exact Nat.ne_of_lt lt)]
    exact (f2 b hb).1
  have st3 : tn 0 s3.heap := T.keep _ _ _ st2 fun b _ o e => by rw [h3]; exact Heap.get?_push_of_some _ e
  have I4 := block_start I3 ok hN f3
  let cl := cellsFrom (s3.heap.objs.size + 1) scope.names (cloFrom X.env.cells scope.names [])
  have pg := hg s3 (upd H2 D (SetSO X.w D [])) s3.heap.objs.size cl fp
  have pt := ht s3 (upd H2 D (SetSO X.w D [])) s3.heap.objs.size cl fp
  have pe := he s3 (upd H2 D (SetSO X.w D [])) s3.heap.objs.size cl fp
  show codeAny _ _ (.compStart (.SetComp elt [⟨tg, iter, ifs, 0⟩] scope pos) 0 (.ref it) (.ref D) (compEnvC scope cl s3.heap.objs.size X.env)) (compPost (model X.prog X.w) X.A X.xe use Qf (.ref D) s3.heap.objs.size) { s3 with heap := pushCells (s3.heap.push { cls := .type "dict", data := .dict #[] }) scope.names }
  have nfp : ∀ b ∈ fp, (upd H2 D (SetSO X.w D [])) b = none := fun b hb => (f3 b hb).1.1
  generalize hce : compEnvC scope cl s3.heap.objs.size X.env = ce at pg pt pe ⊢
  have I4 : Inv (X.blk s3 (upd H2 D (SetSO X.w D [])) scope ce fp) [] (wipe σ (own.map (·.2))) (upd H2 D (SetSO X.w D [])) _ := hce ▸ I4
  have cL : ce.locals = s3.heap.objs.size := by subst hce; rfl
  generalize hH3 : upd H2 D (SetSO X.w D []) = H3 at I3 I4 pg pt pe w0 nfp f3
  generalize hs4 : ({ s3 with heap := pushCells (s3.heap.push { cls := .type "dict", data := .dict #[] }) scope.names } : Shared) = s4 at I4 ⊢
  have st4 : tn 0 s4.heap := T.keep _ _ _ st3 fun b _ o e => by rw [← hs4]; exact pushCells_keeps _ _ _ _ (Heap.get?_push_of_some _ e)
  have stat : ∀ {σ' : L2.St} {H' : Hp} {s' : Shared}, Inv (X.blk s3 H3 scope ce fp) [] σ' H' s' → (∀ b ∈ fp, H' b = none) → ∀ b ∈ fp, FpOk (X.blk s3 H3 scope ce fp) [] H' b := by
    intro σ' H' s' I' hn b hb
    exact ⟨hn b hb, (I'.ok.exf b hb).1, I'.ok.exfs b hb, .inl hb, fun x c e => (I'.ok.exf b hb).2 x c e, fun p hp => absurd (show p ∈ ([] : List (Addr × Obj)) ++ [] from hp) (by simp)⟩
  have loop : codeAny (model X.prog X.w) X.A (.compLoop (.SetComp elt [⟨tg, iter, ifs, 0⟩] scope pos) 0 (.ref it) (.ref D) ce) (compPost (model X.prog X.w) X.A X.xe use Qf (.ref D) s3.heap.objs.size) s4 := by
    refine PpSet.compLoopS_any (fun n s' => ∃ i H', Inv (X.blk s3 H3 scope ce fp) [] (wipe σ (own.map (·.2))) H' s' ∧ tn i s'.heap ∧ (∀ b ∈ fp, H' b = none) ∧ W i n H') (fun n s5 hI => ?_) m0 ⟨0, H3, I4, st4, nfp, w0⟩
    obtain ⟨i, H5, I5, st5, n5, w5⟩ := hI
    rcases turn i n H5 w5 with ⟨stop, qq⟩ | ⟨go, Nx, hNx, step⟩
    · refine thnF (T.done (X.blk s3 H3 scope ce fp) rfl rfl rfl hc i [] s5 _ H5 (fun _ _ => False) I5 (stat I5 n5) st5 stop) fun r s6 ⟨hr, I6⟩ => ?_
      subst hr
      have I7 : Inv X pins σ H5 s6 := I3.call' (ch := fp) I6.os I6.base I6.hok I6.bare fun b hb => ⟨(f3 b hb).1.2.2.2.1, (f3 b hb).1.2.1, (f3 b hb).1.2.2.2.2.1, (f3 b hb).1.2.2.2.2.2⟩
      have nC : H5 s3.heap.objs.size = none := cL ▸ (show H5 ce.locals = none from I6.free)
      obtain ⟨m, hn, _⟩ := I6.loc
      have hn : s6.heap.Ns ce.locals m := hn
      exact hRR D s3.heap.objs.size s6 m H5 I7 qq (cL ▸ hn) (I3.fpOk (Nat.le_refl _) nC)
    · refine thnF (T.item (X.blk s3 H3 scope ce fp) rfl rfl rfl hc i [] s5 _ H5 (fun _ _ => False) I5 (stat I5 n5) st5 go) fun r s6 ⟨u, hr, h6⟩ => ?_
      subst hr
      refine thnF h6 fun _ s7 ⟨x, H7, I7, r7, y7, st7, n7⟩ => ?_
      refine thnF (pg.run _ s7 _ H7 x u _ (I7.pinned (stat I7 n7) (T.obj _ _ st7)) r7 (step x H7 y7)) fun _ s8 ⟨σ8, H8, I8, hw8, q8⟩ => thnF (pt.run _ s8 σ8 H8 _ I8 q8) fun b s9 ⟨H9, I9, q9⟩ => ?_
      have fin : ∀ {s' : Shared} {H' : Hp}, Inv (X.blk s3 H3 scope ce fp) ([] ++ pinsAt fp s7.heap) σ8 H' s' → Nx H' → ∃ m, m < n ∧ ∃ i H', Inv (X.blk s3 H3 scope ce fp) [] (wipe σ (own.map (·.2))) H' s' ∧ tn i s'.heap ∧ (∀ b ∈ fp, H' b = none) ∧ W i m H' := by
        intro s' H' I' nx
        obtain ⟨m', hm, w'⟩ := hNx H' nx
        have pin' : ∀ b ∈ fp, ∀ o, s7.heap.get? b = some o → s'.heap.get? b = some o ∧ H' b = none := fun b hb o e => let k := I'.pin (b, o) (List.mem_append_right _ (List.mem_append_right _ (mem_pinsAt hb e))); ⟨k.1, k.2.1⟩
        refine ⟨m', hm, i + 1, H', (I'.unpinned (pins := [])).weak (by rw [← hw8, wipe_length]) (fun j v e => ?_), T.keep _ _ _ st7 fun b hb o e => (pin' b hb o e).1, fun b hb => ?_, w'⟩
        · exact (wipe_some (hw8 ▸ e)).1
        · obtain ⟨o, e, _⟩ := T.obj _ _ st7 b hb
          exact (pin' b hb o e).2
      cases b
      · simp only [Bool.false_eq_true, if_false] at q9 ⊢
        exact fin I9 q9
      · simp only [if_true] at q9 ⊢
        refine thnF (pe.run _ s9 σ8 H9 _ I9 q9) fun v s10 ⟨yv, H10, I10, r10, z, L0, ey, hD10, hz10, nx⟩ => ?_
        subst ey
        obtain ⟨tk, rfl⟩ := r10
        exact addSO (X := X.blk s3 H3 scope ce fp) I10 hD10 hz10 fun s11 I11 => fin I11 nx
  exact PpSet.codeAny_compStart_set loop (T.self X.A 0 _ _ _ st4 loop)
theorem pe_scS (hc : X.calm = true) (hN : X.N.Nodup) (hi : PI X tg iter wi) (ok : BlkOk X.N X.env.scope scope own) (hg : ∀ (s : Shared) (H : Hp) (C : Addr) (cl : List (PySem.Str × Addr)) (fp : List Addr), PG (X.blk s H scope (compEnvC scope cl C X.env) fp) tg g)
    (ht : ∀ (s : Shared) (H : Hp) (C : Addr) (cl : List (PySem.Str × Addr)) (fp : List Addr), PTs (X.blk s H scope (compEnvC scope cl C X.env) fp) ifs tt) (he : ∀ (s : Shared) (H : Hp) (C : Addr) (cl : List (PySem.Str × Addr)) (fp : List Addr), PE (X.blk s H scope (compEnvC scope cl C X.env) fp) elt te)
    (hs : ∀ x, foldedSetIterable iter X.env x = pure x := by intro _; rfl) : PE X (.SetComp elt [⟨tg, iter, ifs, 0⟩] scope pos) (tScS X.w wi g tt te (own.map (·.2))) := by
  refine ⟨fun pins s σ H Q I h => ?_⟩
  rw [PpSet.eval_SetComp]
  refine coreS hc hN I hi ok hg ht he hs h fun D C s' m H' I' q hn ⟨f0, f1, f2, f3, f4, f5⟩ => ⟨m, hn, fun h'' sb => ⟨.ref D, H', I'.turned (t' := s'.toks) (fun b o hb e => (sb.2 b hb).trans e) f0 f1 f3 f4 f5, rfl, q⟩⟩
end
/-- over a list or a tuple that the block leaves as it is -/
theorem sc_Q {w : World} {K : PySem.W.Frag} {a : Addr} {j : Nat} {xs : List V} {g : TG} {tt : TT} {te : TE} {vs : List Nat} {σ : L2.St} {H : Hp} {Q : VK} (hv : σ[j]? = some (some (.ref a))) (hq : SqL K H a xs ∨ SqT K H a xs) (Pv : Nat → Addr → Hp → Prop)
    (hS : ∀ i D H', Pv i D H' → (SqL K H a xs → SqL K H' a xs) ∧ (SqT K H a xs → SqT K H' a xs)) (h0 : ∀ D, H D = none → Pv 0 D (upd H D (SetSO w D [])))
    (hs : ∀ i D x H', xs[i]? = some x → Pv i D H' → g x (wipe σ vs) H' fun σ2 H2 => wipe σ2 vs = wipe σ vs ∧ tt σ2 H2 fun b H3 =>
      if b = true then te σ2 H3 fun y H4 => ∃ (z : Str) (L : List Str), y = .str z ∧ H4 D = some (SetSO w D L) ∧ L.length + 1 < scanBound ∧ Pv (i + 1) D (upd H4 D (SetSO w D (plus L z))) else Pv (i + 1) D H3)
    (hd : ∀ D H', Pv xs.length D H' → Q (.ref D) H') : tScS w (iQ K (tVar j)) g tt te vs σ H Q := by
  have run : ∀ (J : It) (D : Addr), H D = none → (∀ i H', Pv i D H' → i ≤ xs.length → (i < xs.length → J.go i H' ∧ ∀ x H'', J.yld i H' x H'' → H'' = H' ∧ xs[i]? = some x) ∧ (i = xs.length → J.stop i H')) → ∃ W : Nat → Nat → Hp → Prop, (∃ m, W 0 m (upd H D (SetSO w D []))) ∧ ∀ i m H, W i m H →
      (J.stop i H ∧ Q (.ref D) H) ∨ (J.go i H ∧ ∃ Nx : Hp → Prop, (∀ H', Nx H' → ∃ m', m' < m ∧ W (i + 1) m' H') ∧ ∀ x H', J.yld i H x H' → g x (wipe σ vs) H' fun σ2 H2 => wipe σ2 vs = wipe σ vs ∧ tt σ2 H2 fun b H3 =>
        if b = true then te σ2 H3 fun y H4 => ∃ (z : Str) (L : List Str), y = .str z ∧ H4 D = some (SetSO w D L) ∧ L.length + 1 < scanBound ∧ Nx (upd H4 D (SetSO w D (plus L z))) else Nx H3) := by
    intro J D nD hJ
    refine ⟨fun i m H' => m = xs.length - i ∧ i ≤ xs.length ∧ Pv i D H', ⟨_, rfl, Nat.zero_le _, h0 D nD⟩, ?_⟩
    rintro i m H' ⟨rfl, hi, p⟩
    obtain ⟨j1, j2⟩ := hJ i H' p hi
    by_cases hlt : i < xs.length
    · obtain ⟨go, y⟩ := j1 hlt
      refine .inr ⟨go, Pv (i + 1) D, fun H' p' => ⟨xs.length - (i + 1), by omega, rfl, hlt, p'⟩, fun x H'' hy => ?_⟩
      obtain ⟨rfl, hx⟩ := y x H'' hy
      exact hs i D x _ hx p
    · obtain rfl : i = xs.length := by omega
      exact .inl ⟨j2 rfl, hd D H' p⟩
  rcases hq with hq | hq
  · refine .inl ⟨_, hv, a, rfl, ⟨_, hq⟩, fun D nD => run _ D nD fun i H' p hi => ?_⟩
    have q := (hS i D H' p).1 hq
    exact ⟨fun lt => ⟨⟨xs, xs[i], q, by simp [lt]⟩, fun x H'' y => ⟨y.1, y.2 xs q⟩⟩, fun e => ⟨xs, q, Nat.le_of_eq e.symm⟩⟩
  · refine .inr ⟨_, hv, a, rfl, ⟨_, hq⟩, fun D nD => run _ D nD fun i H' p hi => ?_⟩
    have q := (hS i D H' p).2 hq
    exact ⟨fun lt => ⟨⟨xs, xs[i], q, by simp [lt]⟩, fun x H'' y => ⟨y.1, y.2 xs q⟩⟩, fun e => ⟨xs, q, Nat.le_of_eq e.symm⟩⟩
/-- sorted(found) -/
def rSortZ (w : World) : List V → Hp → VK → Prop := fun vs H Q => ∃ a, vs = [V.ref a] ∧ ∃ L, H a = some (SetSO w a L) ∧ ∀ (ys : List Str) (p : Addr), ys.Perm L → L.Nodup → sortedS ys = true → H p = none → Q (.ref p) (upd H p (.lst (ms ys)))
theorem strs_of : ∀ (l : List Value), (∀ v ∈ l, ∃ z tk, v = Value.str z tk) → StrsAre l (l.map fun v => zOf (0, v))
  | [], _ => .nil
  | v :: l, h => by
    obtain ⟨z, tk, rfl⟩ := h v List.mem_cons_self
    exact .cons z tk (strs_of l fun u hu => h u (List.mem_cons_of_mem _ hu))
theorem sort_Z {X : Cx} (hc : X.calm = true) : CallR X (.builtin "sorted") (rSortZ X.w) := by
  intro pins s σ H vs us Q I r h
  obtain ⟨a, rfl, L, ha, q⟩ := h
  obtain ⟨o, es, ep, t, ho, hex, hd, g, pL, nd, hb, hf, hr, hl⟩ := setSO_at I ha
  rw [Vals.ref1 r]
  have hn : es.size = L.length := by rw [← Array.length_toList, ← List.length_map (f := zOf), pL.length_eq]
  have hL : L.length ≤ sizeLine := by rw [← hn]; exact fits_of_scanBound hb
  refine Calls.call_function_entry kind_sorted plain_sorted entry_sorted (args_sorted1 _) ?_
  unfold Builtin.«sorted»
  refine wpAny_bind (m := checkCount "sorted" 1 1 _) (wpAny_pure (wpAny_bind (collect_set (A := X.A.in1) (I.ok.hd hc) ⟨o, ho, hex.1, hd⟩ hf hb hr hl fun s1 vs k1 hz g1 o1 pm => ?_)))
  have hvl : vs.length = L.length := by rw [pm.length_eq, List.length_map, Array.length_toList, hn]
  have hI : StrsAre vs (vs.map fun v => zOf (0, v)) := strs_of vs fun v hv => by
    obtain ⟨e, he, rfl⟩ := List.mem_map.mp (pm.mem_iff.mp hv)
    obtain ⟨z, tk, h1, _⟩ := g e he
    exact ⟨z, tk, h1⟩
  have pk : (vs.map fun v => zOf (0, v)).Perm L := by
    refine List.Perm.trans (l₂ := es.toList.map zOf) ?_ pL
    have k := pm.map fun v => zOf (0, v)
    rw [List.map_map] at k
    exact k
  refine wpAny_bind (wpAny_newList ?_ (by rw [hvl]; exact hL))
  have hoL : (s1.heap.push (seqObj "list" vs.toArray 0)).get? s1.heap.objs.size = some (seqObj "list" vs.toArray 0) := Heap.get?_push_size _ rfl
  refine wpAny_bind (wpAny_holding (wpAny_call_entry slot_list_sort ⟨_, hoL, rfl⟩ entry_list_sort (list_sort_treeKAny (κ := strKind) strKind_oneLt hoL hI.keysOf (fun v₁ v₂ rest e => keyKind_strs (by rw [← e]; exact hI)) (by rw [hvl]; exact hL) fun st' hp hs => ?_) (args_list_sort _)))
  obtain ⟨ys, y1, y2, y3⟩ := sorted_out_str hI hp hs
  obtain ⟨c, hcc⟩ := sortedHeap_at (vs := vs) (out := (arrOf st').map (·.2)) hoL
  have old : ∀ b u, s.heap.get? b = some u → (sortedHeap (s1.heap.push (seqObj "list" vs.toArray 0)) s1.heap.objs.size vs ((arrOf st').map (·.2))).get? b = some u := fun b u e => by
    have k := k1 b u e
    have lt := Heap.lt_size k
    rw [sortedHeap_old (Nat.ne_of_lt lt) (by rw [size_push']; exact Nat.lt_succ_of_lt lt)]
    exact Heap.get?_push_of_some _ k
  have hlen : (ms ys).length ≤ sizeLine := by rw [List.length_map, y2.length_eq, List.length_map, hvl]; exact hL
  have hp0 : H s1.heap.objs.size = none := I.hok.fresh hz
  generalize sortedHeap (s1.heap.push (seqObj "list" vs.toArray 0)) s1.heap.objs.size vs ((arrOf st').map (·.2)) = h2 at old hcc
  have J : Inv X pins σ (upd H s1.heap.objs.size (.lst (ms ys))) { s with heap := h2, gens := s1.gens, drawn := s1.drawn, toks := s1.toks } := I.call (ch := []) (Un.laid old hz hp0) (I.hok.laid old hz ⟨hlen, _, c, vals_of_strs y1, hcc⟩) (by rw [g1]; exact I.bare) (fun _ k => nomatch k)
  have e : ({ s1 with heap := h2 } : Shared) = { s with heap := h2, gens := s1.gens, drawn := s1.drawn, toks := s1.toks } := by
    cases s1
    cases s
    cases o1
    rfl
  refine ⟨_, rfl, wpAny_pure ⟨_, rfl, .ref s1.heap.objs.size, _, ?_, rfl, q ys _ (y2.trans pk) nd y3 hp0⟩⟩
  show Inv X pins σ _ ({ s1 with heap := h2 } : Shared)
  rw [e]
  exact J
end Fx
/-! o(e, ..), the class of o has a __call__; o op p in a try's body -/
namespace Fx
open PySem PySem.Spec PySem.Calls PyProof.Rows L2
section
variable {M : Model} {A : Around} {E : Value → Shared → Prop} {s : Shared} {K : PySem.W.Frag} {pos : Pos} {x C : Addr} {Q : Value → Shared → Prop}
theorem own_with {args : List (Bool × Sem Value)} (hp : args.any (·.1) = false) (h : wpAny M A (evalArgs (.ref x) true args []) (fun a s₁ => (∃ ox od, PySem.W.InstAt s₁.heap x ox C od ∧ ox.data = .plain) ∧ wpAny M A (call (.ref x) a.pos a.kw) Q E s₁) E s) : wpAny M A (callWith pos (.ref x) [] args []) Q E s := by
  unfold callWith
  refine wpAny_bind (wpAny_holding (wpAny_mono h (fun a s₁ ⟨⟨ox, od, J, hd⟩, hc⟩ => wpAny_bind (wpAny_standAt ?_)) fun _ _ y => y))
  have pl : (args.any (·.1) || ([] : List (Option Str × Sem Value)).any (·.1.isNone)) = false := by rw [hp]; rfl
  simp only [pl]
  refine wpAny_bind ((PySem.W.kco_keeper (M := M) J hd).here (wpAny_bind (wpAny_mono (wpAny_operateT hc) (fun r s₂ hr => wpAny_bind (wpAny_holding (wpAny_point (wpAny_pure hr)))) fun _ _ y => y)))
end
section
variable {X : Cx} {k : Nat} {C : Addr} {CX : CXT} {ps : List Str} {sp : Sp} {W : WX} {x : Str} {p pos : Pos} {e : Expr} {es : List Expr} {ta : TE} {t : TA} {E : L2.St → XK}
def callB (K : PySem.W.Frag) (C : Addr) : Bool := match PySem.W.findIn K (.ref C) "__call__" with
  | some (some (.ref f)) => PySem.W.fnIn K f
  | _ => false
theorem callB_ok {K : PySem.W.Frag} {C f : Addr} (h : callB K C = true) (e : PySem.W.findIn K (.ref C) "__call__" = some (some (.ref f))) : PySem.W.fnIn K f = true := by
  unfold callB at h
  rw [e] at h
  exact h
theorem pAt {X : Cx} {CX : CXT} {E : XK} (h : Passes CX X E) (σ : L2.St) : PassesAt CX X σ E := fun pins H s e s' I c => h pins σ H s e s' I c
def tCallO (C : Addr) (sp : Sp) (E : L2.St → XK) (ta : TE) (t : TA) : TE := fun σ H Q => ta σ H fun x H1 => ∃ a, x = .ref a ∧ t σ H1 fun vs H2 => ∃ dx fs, H2 a = some (.ins C dx fs) ∧ sp (x :: vs) H2 Q (E σ)
theorem pe_callO (M : CalM X.prog X.w X.K X.mg X.base CX k C "__call__" ps sp) (hc : callB X.K C = true) (hr : Room k X.A) (hx : ∀ σ, PassesAt CX X σ (E σ)) (hn : PE X (.Name x p) ta) (ha : PA X (e :: es) t) (hs : (e :: es).all nostar = true := by rfl) :
    PE X (.Call (.Name x p) (e :: es) [] pos) (tCallO C sp E ta t) := by
  obtain ⟨f, fd, m, b, F⟩ := M.ex
  simp only [List.all_cons, Bool.and_eq_true] at hs
  refine ⟨fun pins s σ H Q I h => ?_⟩
  refine wpAny_Call_Name_kw (thn (hn.run pins s σ H _ I h) fun u s1 ⟨v, H1, I1, rv, a, ev, q⟩ => ?_)
  subst ev
  obtain rfl : u = Value.ref a := rv
  have pl : (backTo pos (starEach (e :: es) X.env)).any (·.1) = false := by
    rw [star_ok hs.1]
    show (false || (backTo pos (starEach es X.env)).any (·.1)) = false
    rw [back_ok hs.2]
    rfl
  refine own_with (C := C) pl ?_
  have hA := ha.run pos pins s1 σ H1 _ I1 q
  rw [star_ok hs.1] at hA ⊢
  refine evalArgs_plain (thn hA fun us s2 ⟨vs, H2, I2, r, dx, fs, h2, q2⟩ => ?_)
  obtain ⟨ox, od, J, hd⟩ : ∃ ox od, PySem.W.InstAt s2.heap a ox C od ∧ ox.data = .plain := by
    obtain ⟨mA, J, _⟩ := ins_get I2.hok h2
    obtain ⟨od, J, _⟩ := J.look
    exact ⟨_, od, J, rfl⟩
  refine ⟨⟨ox, od, J, hd⟩, ?_⟩
  have e0 := I2.env0
  have rr : Vals (V.ref a :: vs) (Value.ref a :: us) := .cons rfl r
  have hl : (Value.ref a :: us).length = ps.length := by rw [← rr.length]; exact F.len _ _ _ _ q2
  have bb := b s2 (Value.ref a :: us) I2.kIn (by rw [List.append_nil]; exact hl)
  rw [List.append_nil] at bb
  refine wpAny_call (PySem.W.kco_code I2.kIn J hd m.at_ m.fn (callB_ok hc m.at_) (codeAny_mono (F.run X.A X.stack s2 H2 ⟨.ref a :: us, []⟩ (.ref a :: us) (V.ref a :: vs) Q (E σ) hr e0 bb rr q2) fun rs s' hq => ?_))
  cases rs with
  | error ex => exact hx σ pins H2 s2 ex s' I2 hq
  | ok fl =>
    cases fl with
    | ret u => exact I2.after hq
    | next => exact False.elim hq
    | brk => exact False.elim hq
    | cont => exact False.elim hq
theorem run_at {A : Around} {f : Addr} {fd : FuncData} {pins : List (Addr × Obj)} {σ : L2.St} {H : Hp} {s : Shared} {Q : VK} {us : List Value} {vs : List V} (hA : A.frames = X.A.frames) (F : FnOk X.prog X.w X.K X.mg X.base CX k f fd ps sp) (hr : Room k A) (hb : Binds X.K fd ps []) (hx : PassesAt CX X σ (E σ))
    (I : Inv X pins σ H s) (r : Vals vs us) (h : sp vs H Q (E σ)) : wpAny (model X.prog X.w) A (call (.ref f) us) (EP X pins σ Q) X.xe s := by
  have e := I.env0
  have e0 : Env0 X.prog X.w X.K X.mg X.base A X.stack s H := ⟨by rw [hA]; exact e.frames, e.mod, e.bs, e.bsz, e.funs, e.frf, e.hok, e.bare⟩
  have hl : us.length = ps.length := r.length ▸ F.len _ _ _ _ h
  have bb := hb s us I.kIn (by rw [List.append_nil]; exact hl)
  rw [List.append_nil] at bb
  refine wpAny_call (codeAny_mono (F.run A X.stack s H ⟨us, []⟩ us vs Q (E σ) hr e0 bb r h) fun rs s' hq => ?_)
  cases rs with
  | error ex => exact hx pins H s ex s' I hq
  | ok fl =>
    cases fl with
    | ret u => exact I.after hq
    | next => exact False.elim hq
    | brk => exact False.elim hq
    | cont => exact False.elim hq
/-- o op p in a try's body -/
def tBinT (C : Addr) (sp : Sp) (E : L2.St → XK) (ta tb : TE) : TE := fun σ H Q => ta σ H fun x H1 => tb σ H1 fun y H2 => ∃ a b dx dy fs gs, x = .ref a ∧ y = .ref b ∧ H2 a = some (.ins C dx fs) ∧ H2 b = some (.ins C dy gs) ∧ sp [.ref a, .ref b] H2 (fun v H' => ∃ r, v = .ref r ∧ Q (.ref r) H') (E σ)
theorem pe_binT {op : Operator} {mn : Str} {a b : Expr} {tb : TE} (hop : PySem.dunder op.info.2 = mn) (M : CalM X.prog X.w X.K X.mg X.base CX k C mn ps sp) (hc : PySem.W.selfFirst X.K C = true) (hr : Room k X.A) (hx : ∀ σ, PassesAt CX X σ (E σ)) (ha : PE X a ta) (hb : PE X b tb) :
    PE X (.BinOp a op b pos) (tBinT C sp E ta tb) := by
  refine ⟨fun pins s σ H Q I h => wpAny_BinOp (binT ha hb I h fun v u s2 x y H2 I2 rx ry hq => ?_)⟩
  obtain ⟨f, fd, m, b, F⟩ := M.ex
  obtain ⟨a, c, dx, dy, fs, gs, rfl, rfl, h1, h2, hsp⟩ := hq
  cases rx
  cases ry
  subst hop
  obtain ⟨ox, od, J⟩ := inst_at I2 h1
  obtain ⟨oy, od', J'⟩ := inst_at I2 h2
  obtain ⟨mm, hF⟩ := I2.fr
  refine PySem.W.binop_K hF I2.ok.mod.kin J J'.type hc m.at_ m.fn (wpAny_mono (run_at (vs := [.ref a, .ref c]) (us := [.ref a, .ref c]) rfl F hr b (hx σ) I2 (.cons rfl (.cons rfl .nil)) hsp) (fun v s' hv => ?_) fun _ _ z => z)
  obtain ⟨z, H', I', rz, r, rfl, q⟩ := hv
  cases rz
  exact ⟨.ref r, H', I', rfl, q⟩
end
end Fx
/-! text += text, range with a step in a comprehension, a reading that depends on the slots -/
namespace Fx
open PySem PySem.Spec PyProof.Rows L2
section
variable {X : Cx} {pos : Pos}
def ipZ : TIp := fun x y H Q => ∃ a b, x = .str a ∧ y = .str b ∧ a.length + b.length ≤ sizeLine ∧ Q (.str (a ++ b)) H
theorem ip_addZ : PIp X .Add ipZ := fun pins s σ H x y v u Q I rx ry h => iop_add_str pins s σ H x y v u Q I rx ry h
/-- a reading that leans on the slots -/
def tDep (T : L2.St → TE) : TE := fun σ H Q => T σ σ H Q
theorem pe_dep {e : Expr} {T : L2.St → TE} (h : ∀ σ, PE X e (T σ)) : PE X e (tDep T) := ⟨fun pins s σ H Q I q => (h σ).run pins s σ H Q I q⟩
theorem cx_w {CX : CXT} {P : Program} {w : World} {K : PySem.W.Frag} {mg : Str → Option Value} {base : Heap} {N : List Str} {qual : Str} {scope : Scope} {f : Addr} {cd : Value} {A : Around} {outer : List Env} {s : Shared} {H : Hp} {E : XK} :
    (cxOf CX P w K mg base N qual scope f cd A outer s H E).w = w := rfl
end
theorem lc_rangeC {lo c : Int} {n : Nat} {g : TG} {tt : TT} {te : TE} {vs : List Nat} {σ : L2.St} {H1 : Hp} {D : Addr} {Qd : Hp → Prop} (Pv : Nat → Hp → Prop) (h0 : Pv 0 (upd H1 D (.lst [])))
    (hs : ∀ i H, i < n → Pv i H → g (.int (lo + (i : Nat) * c)) (wipe σ vs) H fun σ2 H2 => wipe σ2 vs = wipe σ vs ∧ tt σ2 H2 fun b H3 => if b = true then te σ2 H3 fun y H4 => ∃ acc, H4 D = some (.lst acc) ∧ acc.length < sizeLine ∧ Pv (i + 1) (upd H4 D (.lst (acc ++ [y]))) else Pv (i + 1) H3)
    (hd : ∀ H, Pv n H → Qd H) : ∃ W : Nat → Nat → Hp → Prop, (∃ m, W 0 m (upd H1 D (.lst []))) ∧ ∀ i m H, W i m H →
      ((Itc lo c n).stop i H ∧ Qd H) ∨ ((Itc lo c n).go i H ∧ ∃ Nx : Hp → Prop, (∀ H', Nx H' → ∃ m', m' < m ∧ W (i + 1) m' H') ∧ ∀ x H', (Itc lo c n).yld i H x H' → g x (wipe σ vs) H' fun σ2 H2 => wipe σ2 vs = wipe σ vs ∧ tt σ2 H2 fun b H3 =>
        if b = true then te σ2 H3 fun y H4 => ∃ acc, H4 D = some (.lst acc) ∧ acc.length < sizeLine ∧ Nx (upd H4 D (.lst (acc ++ [y]))) else Nx H3) := by
  refine ⟨fun i m H => m = n - i ∧ i ≤ n ∧ Pv i H, ⟨n, by omega, Nat.zero_le _, h0⟩, ?_⟩
  rintro i m H ⟨rfl, hi, p⟩
  rcases Nat.lt_or_ge i n with hlt | hge
  · refine .inr ⟨hlt, Pv (i + 1), fun H' p' => ⟨n - (i + 1), by omega, rfl, hlt, p'⟩, ?_⟩
    rintro x H' ⟨rfl, rfl⟩
    exact hs i _ hlt p
  · obtain rfl : i = n := by omega
    exact .inl ⟨Nat.le_refl _, hd H p⟩
theorem rgC_up {a b c : Int} {n : Nat} (hc : 0 < c) (hc2 : c < 1000000) (ha : -(2 ^ 60) ≤ a) (ha' : a ≤ 2 ^ 60) (hb : -(2 ^ 60) ≤ b) (hb' : b ≤ 2 ^ 60) (hn : (n : Int) = if a < b then (b - a - 1) / c + 1 else 0) : RgC a b c n := by
  have hz : Builtin.Range.rangeSize a b c = if a < b then (b - a - 1) / c + 1 else 0 := by
    unfold Builtin.Range.rangeSize
    rw [if_pos hc]
  refine ⟨by omega, by omega, ?_, by rw [hz, hn]⟩
  unfold Builtin.Range.small
  rw [hz]
  by_cases h : a < b
  · have h1 : (b - a - 1) / c ≤ b - a - 1 := Int.ediv_le_self _ (by omega)
    have h2 : 0 ≤ (b - a - 1) / c := Int.ediv_nonneg (by omega) (by omega)
    simp only [Builtin.Range.rangeFitsLong, Bool.and_eq_true, Bool.or_eq_true, decide_eq_true_eq, beq_iff_eq, if_pos h, if_pos hc]
    omega
  · simp only [Builtin.Range.rangeFitsLong, Bool.and_eq_true, Bool.or_eq_true, decide_eq_true_eq, beq_iff_eq, if_neg h, if_pos hc]
    omega
end Fx
/-! A def that is called in an except suite with plain arguments -/
namespace Fx
open PySem PySem.Spec PySem.Calls PyProof.Rows L2
structure FnQ (P : Program) (w : World) (K : PySem.W.Frag) (mg : Str → Option Value) (base : Heap) (k : Nat) (f : Addr) (fd : FuncData) (ps : List Str) (sp : Sp) : Prop where
  len : ∀ vs H Q E, sp vs H Q E → vs.length = ps.length
  run : ∀ (A : Around) (outer : List Env) (s : Shared) (H : Hp) (args : Args) (us : List Value) (vs : List V) (Q : VK) (p : Addr × Obj), L2H.RoomH k A → L2H.PinOk outer H s p → Env0 P w K mg base A outer s H → BindsTo s fd args (ps.zip us) → Vals vs us → sp vs H Q E0 →
    codeAny (model P w) A (.call (.ref f) args) (CR CX0 outer P w H s Q E0) s
theorem fn_ofQ {P : Program} {w : World} {K : PySem.W.Frag} {mg : Str → Option Value} {base : Heap} {k : Nat} {f : Addr} {name qual : Str} {params : Arguments} {body : List Stmt} {scope : Scope} {dV kV doc pm cdv ct oc : Value} {an od : Option Addr} {osl : Array (Option Value)} {N ps : List Str} {sp : Sp}
    (lk : K.lookup f = some ⟨oc, od, .func (PySem.W.fnOf name qual params body scope dV kV doc pm an cdv ct), osl⟩) (hcd : PySem.W.codeIn K cdv qual = true) (S : FnScope N ps scope) (len : ∀ vs H Q E, sp vs H Q E → vs.length = ps.length)
    (hbody : ∀ (A : Around) (outer : List Env) (s : Shared) (H : Hp) (vs : List V) (Q : VK) (p : Addr × Obj), L2H.RoomH k (A.deeper (envOfC qual scope s.heap.objs.size f cdv)) → sp vs H Q E0 → ∃ t, PSs (cxE P w K mg base N qual scope f cdv A outer s H p) body t ∧ t { nx := fun _ H' => Q .non H', rt := Q } (L2.start N vs) H) :
    FnQ P w K mg base (k + 1) f (PySem.W.fnOf name qual params body scope dV kV doc pm an cdv ct) ps sp := by
  refine ⟨len, fun A outer s H args us vs Q p hr hpin e0 hb rv hsp => ?_⟩
  have hl := len _ _ _ _ hsp
  have KX : K.In s.heap := e0.mod.kin.keeps fun b o e => (e0.bs b o e).1
  have lim : s.heap.NoLimit := e0.mod.nolimit.keeps fun b o e => (e0.bs b o e).1
  have hkind : ∀ y ∈ ps.zip us, scope.names.lookup y.1 = some .local ∨ (scope.names.lookup y.1 = some .cell ∧ ((cellsFrom (s.heap.objs.size + 1) scope.names []).lookup y.1).isSome = true) := by
    rintro ⟨n, v⟩ hy
    rcases S.par n (List.of_mem_zip hy).1 with q | q
    · exact .inl q
    · exact .inr ⟨q, PySem.W.cellsFrom_some _ _ _ (.inl q)⟩
  refine codeAny_call_function hr.depth (KX _ _ lk) rfl S.co S.gen rfl (PySem.W.codeRec_of KX hcd) (hb _ _ _ _ (wpAny_newFunctionEnv_cells S.kind hkind fun env he s1 y => ?_))
  subst he
  refine ⟨lim.keeps y.toInCall.keep, codeAny_func ?_⟩
  obtain ⟨t, ht, hq⟩ := hbody A outer s H vs Q p (hr.deeper _) hsp
  have I : Inv (L2H.cxH CX0 P w K mg base N qual scope f cdv A outer s H E0 p) [] (L2.start N vs) H s1 := L2H.inv_startH S hpin e0 hl rv y
  refine wpAny_mono (ht.nox.run [] s1 (L2.start N vs) H _ I hq) (fun fl s' hs => ?_) fun e s' hs => hs
  have fin : ∀ {σ' : L2.St} {H' : Hp} {v : V} {u : Value}, Inv (L2H.cxH CX0 P w K mg base N qual scope f cdv A outer s H E0 p) [] σ' H' s' → RelV v u → Q v H' → CE outer P w H s Q u s' := fun {σ' H' v u} J rv q => ⟨v, H', J.os, J.bare, J.base, J.hok, rv, q⟩
  cases fl with
  | ret u =>
    obtain ⟨v, σ', H', J, rv, q⟩ := hs
    exact fin J rv q
  | next =>
    obtain ⟨σ', H', J, q⟩ := hs
    exact fin (v := V.non) (u := Value.none) J rfl q
  | brk =>
    obtain ⟨_, _, _, q⟩ := hs
    exact False.elim q
  | cont =>
    obtain ⟨_, _, _, q⟩ := hs
    exact False.elim q
structure CalQ (P : Program) (w : World) (K : PySem.W.Frag) (mg : Str → Option Value) (base : Heap) (k : Nat) (x : Str) (ps : List Str) (sp : Sp) : Prop where
  ex : ∃ f fd, mg x = some (.ref f) ∧ PySem.W.keepIn K (.ref f) = true ∧ Binds K fd ps [] ∧ FnQ P w K mg base k f fd ps sp
theorem Src.calQ {P : Program} {w : World} {K : PySem.W.Frag} {mg : Str → Option Value} {base : Heap} {x : Str} {st : Stmt} {N ps : List Str} {k : Nat} {sp : Sp} (S : Src K mg x st) (sc : FnScope N ps (defScope st)) (bn : BindP x st ps) (len : ∀ vs H Q E, sp vs H Q E → vs.length = ps.length)
    (hbody : ∀ (f : Addr) (cdv : Value) (A : Around) (outer : List Env) (s : Shared) (H : Hp) (vs : List V) (Q : VK) (p : Addr × Obj), L2H.RoomH k (A.deeper (envOfC x (defScope st) s.heap.objs.size f cdv)) → sp vs H Q E0 →
      ∃ t, PSs (cxE P w K mg base N x (defScope st) f cdv A outer s H p) (defBody st) t ∧ t { nx := fun _ H' => Q .non H', rt := Q } (L2.start N vs) H) : CalQ P w K mg base (k + 1) x ps sp := by
  obtain ⟨f, fd, g, F⟩ := S
  have b := F.bindsN bn
  have kp := F.kp
  obtain ⟨oc, od, dV, kV, doc, pm, an, cdv, ct, osl, rfl, lk, hcd, _, _⟩ := F.ex
  exact ⟨f, _, g, kp, b, fn_ofQ lk hcd sc len fun A outer s H vs Q p hr hsp => hbody f cdv A outer s H vs Q p hr hsp⟩
section
variable {X : Cx} {k : Nat} {x : Str} {ps : List Str} {sp : Sp} {p pos : Pos} {e : Expr} {es : List Expr} {t : TA} {a : Addr} {oe : Obj} {pn : List (Addr × Obj)}
/-- f(e, ..) in the suite -/
theorem pe_calQ (C : CalQ X.prog X.w X.K X.mg X.base k x ps sp) (hr : Room k X.A) (ha : PA (X.suite a ((a, oe) :: pn)) (e :: es) t) (hg : Gl (X.suite a ((a, oe) :: pn)) x := by rfl) (hdb : (x == ("__debug__" : Str)) = false := by decide)
    (hs : (e :: es).all nostar = true := by rfl) : PE (X.suite a ((a, oe) :: pn)) (.Call (.Name x p) (e :: es) [] pos) (tCall sp [] E0 t) := by
  obtain ⟨f, fd, g, kp, b, F⟩ := C.ex
  simp only [List.all_cons, Bool.and_eq_true] at hs
  refine ⟨fun pins s σ H Q I h => wpAny_Call_Name_kw (ld_glob I hg g ?_ hdb)⟩
  refine PySem.W.callWith_K (h₀ := X.base) I.ok.mod.kin kp (thn (ha.run pos pins s σ H _ I h) fun us s1 ⟨vs, H1, I1, r, q⟩ => ⟨I1.kIn, ?_⟩) (star_ok hs.1) (back_ok hs.2)
  have q : sp (vs ++ []) H1 Q E0 := q
  rw [List.append_nil] at q
  have P1 := I1.pin (a, oe) (List.mem_append_left _ List.mem_cons_self)
  have hpin : L2H.PinOk X.stack H1 s1 (a, oe) := ⟨P1.1, P1.2.1, fun hm => (List.mem_cons.mp (I1.stkSub a hm)).elim P1.2.2.1 P1.2.2.2.1, P1.2.2.2.2⟩
  have hl : us.length = ps.length := by rw [← r.length]; exact F.len _ _ _ _ q
  have bb := b s1 us I1.kIn (by rw [List.append_nil]; exact hl)
  rw [List.append_nil] at bb
  refine wpAny_call (codeAny_mono (F.run (X.suite a ((a, oe) :: pn)).A X.stack s1 H1 ⟨us, []⟩ us vs Q (a, oe) ⟨hr.dp, hr.un⟩ hpin I1.env0 bb r q) fun rs s' hq => ?_)
  cases rs with
  | error e => exact False.elim hq
  | ok fl =>
    cases fl with
    | ret u => exact I1.after hq
    | next => exact False.elim hq
    | brk => exact False.elim hq
    | cont => exact False.elim hq
end
end Fx
/-! Walking an object of an own class whose __iter__ gives a tuple's iterator; a def with one default; a statement that is not reached -/
namespace Fx
open PySem PySem.Spec PyProof.Rows L2
/-- a def that keeps its promise, entered where the heap has at least n objects -/
structure FnOkN (P : Program) (w : World) (K : PySem.W.Frag) (mg : Str → Option Value) (base : Heap) (k n : Nat) (f : Addr) (fd : FuncData) (ps : List Str) (sp : Sp) : Prop where
  len : ∀ vs H Q E, sp vs H Q E → vs.length = ps.length
  run : ∀ (A : Around) (outer : List Env) (s : Shared) (H : Hp) (args : Args) (us : List Value) (vs : List V) (Q : VK) (E : XK), n ≤ s.heap.objs.size → Room k A → Env0 P w K mg base A outer s H → BindsTo s fd args (ps.zip us) → Vals vs us → sp vs H Q E →
    codeAny (model P w) A (.call (.ref f) args) (CR CX0 outer P w H s Q E) s
theorem fn_ofN {P : Program} {w : World} {K : PySem.W.Frag} {mg : Str → Option Value} {base : Heap} {k n : Nat} {f : Addr} {name qual : Str} {params : Arguments} {body : List Stmt} {scope : Scope} {dV kV doc pm cdv ct oc : Value} {an od : Option Addr}
    {osl : Array (Option Value)} {N ps : List Str} {sp : Sp} (lk : K.lookup f = some ⟨oc, od, .func (PySem.W.fnOf name qual params body scope dV kV doc pm an cdv ct), osl⟩) (hcd : PySem.W.codeIn K cdv qual = true) (S : FnScope N ps scope)
    (len : ∀ vs H Q E, sp vs H Q E → vs.length = ps.length)
    (hbody : ∀ (A : Around) (outer : List Env) (s : Shared) (H : Hp) (vs : List V) (Q : VK) (E : XK), n ≤ s.heap.objs.size → Room k (A.deeper (envOfC qual scope s.heap.objs.size f cdv)) → sp vs H Q E →
      ∃ t, PSs (cxOf CX0 P w K mg base N qual scope f cdv A outer s H E) body t ∧ t { nx := fun _ H' => Q .non H', rt := Q } (start N vs) H) :
    FnOkN P w K mg base (k + 1) n f (PySem.W.fnOf name qual params body scope dV kV doc pm an cdv ct) ps sp := by
  refine ⟨len, fun A outer s H args us vs Q E hn hr e0 hb r hsp => ?_⟩
  have hl := len _ _ _ _ hsp
  have KX : K.In s.heap := e0.mod.kin.keeps fun b o e => (e0.bs b o e).1
  have lim : s.heap.NoLimit := e0.mod.nolimit.keeps fun b o e => (e0.bs b o e).1
  have hkind : ∀ y ∈ ps.zip us, scope.names.lookup y.1 = some .local ∨ (scope.names.lookup y.1 = some .cell ∧ ((cellsFrom (s.heap.objs.size + 1) scope.names []).lookup y.1).isSome = true) := fun ⟨n, v⟩ hy => by
    rcases S.par n (List.of_mem_zip hy).1 with q | q
    · exact .inl q
    · exact .inr ⟨q, PySem.W.cellsFrom_some _ _ _ (.inl q)⟩
  refine codeAny_call_function hr.depth (KX _ _ lk) rfl S.co S.gen rfl (PySem.W.codeRec_of KX hcd) (hb _ _ _ _ ?_)
  refine wpAny_newFunctionEnv_cells S.kind hkind fun env he s1 x => ?_
  subst he
  refine ⟨lim.keeps x.toInCall.keep, codeAny_func ?_⟩
  obtain ⟨t, ht, hq⟩ := hbody A outer s H vs Q E hn (hr.deeper _) hsp
  have I : Inv (cxOf CX0 P w K mg base N qual scope f cdv A outer s H E) [] (start N vs) H s1 := inv_start S hr.hd e0 hl r x
  refine wpAny_mono (ht.run [] s1 (start N vs) H _ I hq) (fun fl s' hs => ?_) fun e s' hs => hs
  have fin : ∀ {σ' : L2.St} {H' : Hp} {v : V} {u : Value}, Inv (cxOf CX0 P w K mg base N qual scope f cdv A outer s H E) [] σ' H' s' → RelV v u → Q v H' → CE outer P w H s Q u s' :=
    fun {σ' H' v u} J rv q => ⟨v, H', J.os, J.bare, J.base, J.hok, rv, q⟩
  cases fl with
  | ret u =>
    obtain ⟨v, σ', H', J, rv, q⟩ := hs
    exact fin J rv q
  | next =>
    obtain ⟨σ', H', J, q⟩ := hs
    exact fin (v := V.non) (u := Value.none) J rfl q
  | brk =>
    obtain ⟨_, _, _, q⟩ := hs
    exact False.elim q
  | cont =>
    obtain ⟨_, _, _, q⟩ := hs
    exact False.elim q
/-- a method whose promise may speak of the objects that were there -/
structure CalMN (P : Program) (w : World) (K : PySem.W.Frag) (mg : Str → Option Value) (base : Heap) (k : Nat) (C : Addr) (m : Str) (ps : List Str) (spn : Nat → Sp) : Prop where
  ex : ∃ f fd, Meth K C m f ∧ Binds K fd ps [] ∧ ∀ n, FnOkN P w K mg base k n f fd ps (spn n)
section
variable {P : Program} {w : World} {K : PySem.W.Frag} {mg : Str → Option Value} {base : Heap} {k n : Nat} {ps N : List Str} {sp : Sp} {x qual : Str} {st : Stmt} {f : Addr} {fd : FuncData}
theorem ok0N (F : FunD K x qual (defArgs st) (defBody st) (defScope st) [] [] f fd) (sc : FnScope N ps (defScope st)) (len : ∀ vs H Q E, sp vs H Q E → vs.length = ps.length)
    (hbody : ∀ (f : Addr) (cdv : Value) (A : Around) (outer : List Env) (s : Shared) (H : Hp) (vs : List V) (Q : VK) (E : XK), n ≤ s.heap.objs.size → Room k (A.deeper (envOfC qual (defScope st) s.heap.objs.size f cdv)) → sp vs H Q E →
      ∃ t, PSs (cxOf CX0 P w K mg base N qual (defScope st) f cdv A outer s H E).nox (defBody st) t ∧ t { nx := fun _ H' => Q .non H', rt := Q } (L2.start N vs) H) : FnOkN P w K mg base (k + 1) n f fd ps sp := by
  obtain ⟨oc, od, dV, kV, doc, pm, an, cdv, ct, osl, rfl, lk, hcd, _, _⟩ := F.ex
  refine fn_ofN lk hcd sc len fun A outer s H vs Q E hn hr hsp => ?_
  obtain ⟨t, h, q⟩ := hbody f cdv A outer s H vs Q E hn hr hsp
  exact ⟨t, h.nox, q⟩
end
section
variable {X : Cx}
/-- iter(t), younger than the def's entry -/
def rIterTN (n : Nat) : List V → Hp → VK → Prop := fun xs H Q => ∃ t, xs = [.ref t] ∧ ∃ zs, FT H t zs ∧ ∀ it, H it = none → n ≤ it → Q (.ref it) (upd H it (TItO t it 0))
theorem iter_TN : CallR X (.builtin "iter") (rIterTN X.s_0.heap.objs.size) := by
  intro pins s σ H xs us Q I r h
  obtain ⟨t, rfl, zs, hq, q⟩ := h
  obtain ⟨u, rfl, ru⟩ := r.one
  cases ru
  obtain ⟨its, rv, pl, hz⟩ := I.tuple (xs := zs) hq.sq
  refine call_iterT0 pl ?_
  exact ⟨.ref s.heap.objs.size, _, I.laid (t' := s.toks) (fun b u e => Heap.get?_push_of_some _ e) (Nat.le_refl _) (titO_ok ⟨_, Heap.get?_push_size _ rfl, rfl, rfl⟩), rfl, q _ (I.hok.fresh (Nat.le_refl _)) I.sz⟩
/-- for .. in o, o of an own class -/
def iOwn (K : PySem.W.Frag) (C : Addr) (spn : Nat → Sp) (n : Nat) (te : TE) : TI := fun σ H R => te σ H fun x H1 => ∃ a dx fs, x = .ref a ∧ H1 a = some (.ins C dx fs) ∧
  spn n [.ref a] H1 (fun v H2 => ∃ it p, v = .ref it ∧ n ≤ it ∧ H2 it = some (TItO p it 0) ∧ R (Itt K p) (ItX.dropH H2 it)) E0
theorem pi_O {tg e : Expr} {te : TE} {k : Nat} {C : Addr} {ps : List Str} {spn : Nat → Sp} (M : CalMN X.prog X.w X.K X.mg X.base k C "__iter__" ps spn) (hr : Room k X.A) (he : PE X e te) : PI X tg e (iOwn X.K C spn X.s_0.heap.objs.size te) := by
  refine ⟨fun pins s σ H R I h => ?_⟩
  refine thn (he.run pins s σ H _ I h) fun v s1 ⟨x, H1, I1, r1, a, dx, fs, ex, ha, hsp⟩ => ?_
  subst ex
  cases r1
  obtain ⟨f, fd, m, b, F⟩ := M.ex
  obtain ⟨ox, od, J⟩ := inst_at I1 ha
  obtain ⟨mm, hF⟩ := I1.fr
  refine PySem.W.owit_iter hF I1.ok.mod.kin J m.at_ m.fn ?_
  have hb := b s1 [.ref a] I1.kIn (by simpa using (F _).len _ _ _ _ hsp)
  refine wpAny_call (codeAny_mono ((F X.s_0.heap.objs.size).run X.A X.stack s1 H1 ⟨[.ref a], []⟩ [.ref a] [.ref a] _ E0 I1.sz hr I1.env0 (by simpa using hb) (.cons rfl .nil) hsp) fun r s' hq => ?_)
  cases r with
  | error e => exact False.elim hq
  | ok fl =>
    cases fl with
    | next => exact False.elim hq
    | brk => exact False.elim hq
    | cont => exact False.elim hq
    | ret u =>
      obtain ⟨z, H2, I2, rz, it, p, ez, hn, hit, q⟩ := I1.after hq
      subst ez
      cases rz
      have hit0 : s'.heap.IsTupleIter it p 0 := (I2.hok it _ hit).1
      have hit' := hit
      unfold TItO at hit'
      unfold PySem.W.OwitIt
      refine wpAny_specialOf (name := Str.ofString "__next__") hit0.typeIs PySem.F.slot_tuple_iterator_next.lookup ?_
      refine ⟨it, [it], _, _, ItX.dropH H2 it, rfl, ItX.inv_drop I2 hit', turn_tuple p it, hit0, fun b hb => ?_, q⟩
      have e : b = it := by simpa using hb
      rw [e]
      exact ItX.inv_fp I2 hit hn
end
/-! ### a statement that is not reached -/
def tDead : TS := fun _ _ _ => False
theorem ps_dead {X : Cx} {st : Stmt} : PS X st tDead := ⟨fun _ _ _ _ _ _ h => h.elim⟩
/-! ### a def with one default -/
def SrcD (K : PySem.W.Frag) (mg : Str → Option Value) (x : Str) (st : Stmt) (dv : V) : Prop := ∃ f fd, mg x = some (.ref f) ∧ FunD K x x (defArgs st) (defBody st) (defScope st) [dv] [] f fd
structure CalD (P : Program) (w : World) (K : PySem.W.Frag) (mg : Str → Option Value) (base : Heap) (CX : CXT) (k : Nat) (x : Str) (ps : List Str) (dv : V) (sp : Sp) : Prop where
  ex : ∃ f fd ds, mg x = some (.ref f) ∧ PySem.W.keepIn K (.ref f) = true ∧ Binds K fd ps [] ∧ Vals [dv] ds ∧ Binds K fd ps ds ∧ FnOk P w K mg base CX k f fd ps sp
section
variable {P : Program} {w : World} {K : PySem.W.Frag} {mg : Str → Option Value} {base : Heap} {CX : CXT} {x : Str} {st : Stmt} {N ps : List Str} {k : Nat} {dv : V} {sp : Sp}
theorem CalD.full (M : CalD P w K mg base CX k x ps dv sp) : Cal P w K mg base CX k x ps sp := by
  obtain ⟨f, fd, ds, g, kp, b, _, _, F⟩ := M.ex
  exact ⟨f, fd, g, kp, b, F⟩
theorem SrcD.of (S : SrcD K mg x st dv) (n : Nat) (hn : n + 1 = ps.length) (b1 : BindD x x st ps (n + 1) 1) (b0 : BindD x x st ps n 0) (ok : ∀ {f fd}, FunD K x x (defArgs st) (defBody st) (defScope st) [dv] [] f fd → FnOk P w K mg base CX k f fd ps sp) : CalD P w K mg base CX k x ps dv sp := by
  obtain ⟨f, fd, g, F⟩ := S
  obtain ⟨ds1, v1, B1⟩ := F.binds1 (ps := ps) (n + 1) 1 (by simp) (by simpa using hn) b1
  obtain ⟨ds0, v0, B0⟩ := F.binds1 (ps := ps) n 0 (by simp) (by simpa using hn) b0
  have e : ds1 = [] := by
    cases v1
    rfl
  subst e
  exact ⟨f, fd, ds0, g, F.kp, B1, v0, B0, ok F⟩
end
section
variable {X : Cx} {CX : CXT} {E : XK} {k : Nat} {x : Str} {ps : List Str} {dv : V} {sp : Sp} {e : Expr} {es : List Expr} {t : TA} {p pos : Pos}
/-- f(e, ..), the last one by its default -/
theorem pe_calD (C : CalD X.prog X.w X.K X.mg X.base CX k x ps dv sp) (hr : Room k X.A) (hx : Passes CX X E) (ha : PA X (e :: es) t) (hg : Gl X x := by rfl) (hdb : (x == ("__debug__" : Str)) = false := by decide)
    (hs : (e :: es).all nostar = true := by rfl) : PE X (.Call (.Name x p) (e :: es) [] pos) (tCall sp [dv] E t) := by
  obtain ⟨f, fd, ds, g, kp, _, vd, b, F⟩ := C.ex
  simp only [List.all_cons, Bool.and_eq_true] at hs
  exact pe_call F hr hg g kp b vd hx ha hdb (star_ok hs.1) (back_ok hs.2)
end
/-! ### l.count(z) of a list of texts -/
def eqz (k : Str) (v : Value) : Bool := match v with
  | .str z _ => z.cps.toList == k.cps.toList
  | _ => false
theorem eqz_gives {k : Str} {t : Tok} : ∀ {us : List Value} {ns : List Str}, StrsAre us ns → ∀ y ∈ us, MeetsSeq.EqGives y (.str k t) (eqz k y)
  | _, _, .nil => fun y hy => by cases hy
  | _, _, .cons n t' h => fun y hy => by
    rcases List.mem_cons.mp hy with e | e
    · rw [e]
      exact SeqRoads2.EqGives.str n k t' t
    · exact eqz_gives h y e
theorem cps_beq (a b : Str) : (a.cps.toList == b.cps.toList) = (a == b) := by
  by_cases e : a = b
  · subst e
    simp
  · have h2 : ¬ a.cps.toList = b.cps.toList := fun h => e (by
      cases a with
      | mk x => cases b with
        | mk y => exact congrArg PySem.Str.mk (Array.toList_inj.mp h))
    rw [beq_eq_false_iff_ne.mpr e, beq_eq_false_iff_ne.mpr h2]
theorem eqz_count {k : Str} : ∀ {us : List Value} {ns : List Str}, StrsAre us ns → us.countP (eqz k) = ns.count k
  | _, _, .nil => rfl
  | _, _, .cons n t h => by
    have ih := eqz_count (k := k) h
    rw [List.countP_cons, List.count_cons, ih]
    show _ + (if (n.cps.toList == k.cps.toList) = true then 1 else 0) = _
    rw [cps_beq]
def rCntS : V → List V → Hp → VK → Prop := fun x xs H Q => ∃ (p : Addr) (z : Str), x = .ref p ∧ xs = [.str z] ∧ ∃ l : List Str, H p = some (.lst (ms l)) ∧ Q (.int (l.count z : Nat)) H
section
variable {X : Cx}
theorem cnt_L : MtR X "list.count" rCntS := by
  intro pins s σ H x xs v us Q I rx rxs h
  obtain ⟨p, k, rfl, rfl, ns, hs, q⟩ := h
  cases rx
  obtain ⟨u, rfl, ru⟩ := rxs.one
  obtain ⟨t, rfl⟩ := ru
  obtain ⟨its, rv, ⟨⟨cls, dd, data, sl⟩, n, ho, hc, hdn, hd⟩, hlen⟩ := I.list (xs := ms ns) (.inl (.inl hs))
  simp only at hc hd
  subst hc hd
  have hi := strs_of_vals rv
  refine call_meets PySem.F.slot_list_count ⟨_, ho, rfl⟩ PySem.F.entry_list_count (PySem.F.args_list_count_2 _ _)
    (SeqAt.list_countAt p its.toArray n dd sl (.str k t) (eqz k)) ⟨ho, fun y hy => (eqz_gives hi y (by simpa using hy)).at _ _, ?_⟩
  have ec : its.toArray.toList.countP (eqz k) = ns.count k := eqz_count hi
  refine ⟨.int (ns.count k : Nat), H, I.tok _, ⟨s.toks, ?_⟩, q⟩
  show Value.int ((its.toArray.toList.countP (eqz k) : Nat) : Int) s.toks = Value.int ((ns.count k : Nat) : Int) s.toks
  rw [ec]
end
theorem putNew {H H1 : Hp} {D : Addr} {o : HO} (x : Same H H1) (hD : H D = none) : Same H (upd H1 D o) := fun a o' h => by
  rw [upd_ne (ne_of_none h hD)]
  exact x a o' h
/-! ### list comprehensions over what stays: item i gives F i, one or none -/
def LcP (H1 : Hp) (D : Addr) (F : Nat → List V) (i : Nat) (H : Hp) : Prop := Same H1 H ∧ H D = some (.lst ((List.range i).map F).flatten)
section
variable {H1 H H4 : Hp} {D : Addr} {F : Nat → List V} {i : Nat} {y : V}
theorem flat_len1 (hF : ∀ i, (F i).length ≤ 1) : ∀ i, ((List.range i).map F).flatten.length ≤ i
  | 0 => Nat.le_refl _
  | i + 1 => by
    rw [List.range_succ, List.map_append, List.flatten_append, List.length_append]
    have h1 := flat_len1 hF i
    have h2 := hF i
    have h3 : (List.map F [i]).flatten.length = (F i).length := by
      rw [List.map_cons, List.map_nil, List.flatten_cons, List.flatten_nil, List.append_nil]
    rw [h3]
    omega
theorem flat_succ : ((List.range (i + 1)).map F).flatten = ((List.range i).map F).flatten ++ F i := by
  rw [List.range_succ, List.map_append, List.flatten_append]
  simp
theorem LcP.zero (nD : H1 D = none) : LcP H1 D F 0 (upd H1 D (.lst [])) := ⟨same_new nD, upd_same⟩
theorem LcP.put (h : LcP H1 D F i H) (nD : H1 D = none) (hF : ∀ i, (F i).length ≤ 1) (hi : i < 100000) (s : Same H H4) (e : F i = [y]) : ∃ acc, H4 D = some (.lst acc) ∧ acc.length < sizeLine ∧ LcP H1 D F (i + 1) (upd H4 D (.lst (acc ++ [y]))) :=
  ⟨_, s _ _ h.2, Nat.lt_of_le_of_lt (flat_len1 hF i) (Nat.lt_of_lt_of_le hi (by decide)), putNew (h.1.trans s) nD, by rw [upd_same, flat_succ, e]⟩
theorem LcP.skip (h : LcP H1 D F i H) (s : Same H H4) (e : F i = []) : LcP H1 D F (i + 1) H4 := ⟨h.1.trans s, by rw [s _ _ h.2, flat_succ, e, List.append_nil]⟩
end
section
variable {K : PySem.W.Frag} {a : Addr} {xs : List V} {g : TG} {tt : TT} {te : TE} {vs : List Nat} {σ : L2.St}
theorem lcL {H1 : Hp} {D : Addr} {Qd : Hp → Prop} (F : Nat → List V) (nD : H1 D = none) (hq : H1 a = some (.lst xs))
    (hs : ∀ i x H, xs[i]? = some x → LcP H1 D F i H → g x (wipe σ vs) H fun σ2 H2 => wipe σ2 vs = wipe σ vs ∧ tt σ2 H2 fun b H3 =>
      if b = true then te σ2 H3 fun y H4 => ∃ acc, H4 D = some (.lst acc) ∧ acc.length < sizeLine ∧ LcP H1 D F (i + 1) (upd H4 D (.lst (acc ++ [y]))) else LcP H1 D F (i + 1) H3) (hd : ∀ H, Same H1 H → H D = some (.lst ((List.range xs.length).map F).flatten) → Qd H) :
    ∃ W : Nat → Nat → Hp → Prop, (∃ m, W 0 m (upd H1 D (.lst []))) ∧ ∀ i m H, W i m H →
      ((Itl K a).stop i H ∧ Qd H) ∨ ((Itl K a).go i H ∧ ∃ Nx : Hp → Prop, (∀ H', Nx H' → ∃ m', m' < m ∧ W (i + 1) m' H') ∧ ∀ x H', (Itl K a).yld i H x H' → g x (wipe σ vs) H' fun σ2 H2 => wipe σ2 vs = wipe σ vs ∧ tt σ2 H2 fun b H3 =>
        if b = true then te σ2 H3 fun y H4 => ∃ acc, H4 D = some (.lst acc) ∧ acc.length < sizeLine ∧ Nx (upd H4 D (.lst (acc ++ [y]))) else Nx H3) :=
  lc_list (LcP H1 D F) (LcP.zero nD) (fun i H _ h => .inl (.inl (h.1 _ _ hq))) hs (fun H h => hd H h.1 h.2)
theorem lcT {H1 : Hp} {D : Addr} {Qd : Hp → Prop} (F : Nat → List V) (nD : H1 D = none) (hq : ∀ H, Same H1 H → SqT K H a xs)
    (hs : ∀ i x H, xs[i]? = some x → LcP H1 D F i H → g x (wipe σ vs) H fun σ2 H2 => wipe σ2 vs = wipe σ vs ∧ tt σ2 H2 fun b H3 =>
      if b = true then te σ2 H3 fun y H4 => ∃ acc, H4 D = some (.lst acc) ∧ acc.length < sizeLine ∧ LcP H1 D F (i + 1) (upd H4 D (.lst (acc ++ [y]))) else LcP H1 D F (i + 1) H3) (hd : ∀ H, Same H1 H → H D = some (.lst ((List.range xs.length).map F).flatten) → Qd H) :
    ∃ W : Nat → Nat → Hp → Prop, (∃ m, W 0 m (upd H1 D (.lst []))) ∧ ∀ i m H, W i m H →
      ((Itt K a).stop i H ∧ Qd H) ∨ ((Itt K a).go i H ∧ ∃ Nx : Hp → Prop, (∀ H', Nx H' → ∃ m', m' < m ∧ W (i + 1) m' H') ∧ ∀ x H', (Itt K a).yld i H x H' → g x (wipe σ vs) H' fun σ2 H2 => wipe σ2 vs = wipe σ vs ∧ tt σ2 H2 fun b H3 =>
        if b = true then te σ2 H3 fun y H4 => ∃ acc, H4 D = some (.lst acc) ∧ acc.length < sizeLine ∧ Nx (upd H4 D (.lst (acc ++ [y]))) else Nx H3) :=
  lc_tup (LcP H1 D F) (LcP.zero nD) (fun i H _ h => hq H h.1) hs (fun H h => hd H h.1 h.2)
/-- [.. for x in t], t a name of a list or a tuple -/
theorem lcQ {H : Hp} {Q : VK} {j : Nat} (F : Nat → List V) (hv : σ[j]? = some (some (.ref a))) (hq : Sq H a xs)
    (hs : ∀ D, H D = none → ∀ i x H', xs[i]? = some x → LcP H D F i H' → g x (wipe σ vs) H' fun σ2 H2 => wipe σ2 vs = wipe σ vs ∧ tt σ2 H2 fun b H3 =>
      if b = true then te σ2 H3 fun y H4 => ∃ acc, H4 D = some (.lst acc) ∧ acc.length < sizeLine ∧ LcP H D F (i + 1) (upd H4 D (.lst (acc ++ [y]))) else LcP H D F (i + 1) H3)
    (hd : ∀ D H', H D = none → Same H H' → H' D = some (.lst ((List.range xs.length).map F).flatten) → Q (.ref D) H') : tLc (iQ K (tVar j)) g tt te vs σ H Q := by
  rcases hq with hq | hq
  · exact .inl ⟨_, hv, a, rfl, ⟨_, .inl (.inl hq)⟩, fun D nD => lcL F nD hq (hs D nD) (fun H' => hd D H' nD)⟩
  · exact .inr ⟨_, hv, a, rfl, ⟨_, .inl (.inl hq)⟩, fun D nD => lcT F nD (fun H' s => .inl (.inl (s _ _ hq))) (hs D nD) (fun H' => hd D H' nD)⟩
end
/-- a loop over a list or tuple that was there before (at Hb) and stays -/
theorem forQ2 {K : PySem.W.Frag} {a : Addr} {xs : List V} {j : Nat} {g : TG} {tb : TS} {D : Ends} {σ : L2.St} {H Hb : Hp} (hv : σ[j]? = some (some (.ref a))) (hq : Sq Hb a xs) (Pv : Nat → L2.St → Hp → Prop) (h0 : Pv 0 σ H) (hS : ∀ i σ H', Pv i σ H' → Same Hb H')
    (hs : ∀ i x σ H, xs[i]? = some x → Pv i σ H → g x σ H fun σ2 H2 => tb { D with nx := Pv (i + 1), ct := Pv (i + 1), bk := D.nx } σ2 H2) (hd : ∀ σ H, Pv xs.length σ H → D.nx σ H) : tFor (iQ K (tVar j)) g tb D σ H := by
  rcases hq with hq | hq
  · exact .inl ⟨_, hv, a, rfl, ⟨_, .inl (.inl (hS _ _ _ h0 _ _ hq))⟩, for_list (K := K) (a := a) (xs := xs) Pv h0 (fun i σ H' _ p => .inl (.inl (hS i σ H' p _ _ hq))) hs hd⟩
  · exact .inr ⟨_, hv, a, rfl, ⟨_, .inl (.inl (hS _ _ _ h0 _ _ hq))⟩, for_tup (K := K) (a := a) (xs := xs) Pv h0 (fun i σ H' _ p => .inl (.inl (hS i σ H' p _ _ hq))) hs hd⟩
/-- o.m(e, ..) of a builtin, in a comprehension -/
theorem pe_bmK {X : Cx} {K : PySem.W.Frag} {T name id : String} {r : V → List V → Hp → VK → Prop} {o e : Expr} {es : List Expr} {to : TE} {t : TA} {apos cpos : Pos} (hK : X.K = K) (pa : PlainAttrs T) (slot : Slot T name id) (hty : typeOf (.builtin id) = pure (.type "method_descriptor")) (hm : MtR X id r) (ho : PE X o to) (ha : PA X (e :: es) t)
    (hbase : attributeBase o name X.env (eval o X.env) = eval o X.env := by rfl)
    (hfew : ((backTo cpos (starEach (e :: es) X.env)).all (fun x => !x.1) && (backToKw cpos (keywordEach [] X.env)).all (fun x => x.1.isSome)
      && decide ((e :: es).length + ([] : List Keyword).length + (if ([] : List Keyword).isEmpty then 0 else 1) < 30)) = true := by rfl)
    (hline : (apos.endLine == cpos.line) = true := by rfl) (hs : starEach (e :: es) X.env = (false, eval e X.env) :: starEach es X.env := by rfl) (hplain : (backTo cpos (starEach es X.env)).any (·.1) = false := by rfl) :
    PE X (.Call (.Attribute o name apos) (e :: es) [] cpos) (tBM K T r to t) := by
  subst hK
  exact pe_bm pa slot hty hm ho ha hbase hfew hline hs hplain
/-- list(a list or a tuple) -/
def rLstQ : List V → Hp → VK → Prop := fun vs H Q => ∃ p ys, vs = [.ref p] ∧ Sq H p ys ∧ ∀ l, H l = none → Q (.ref l) (upd H l (.lst ys))
theorem list_Q {X : Cx} : CallR X (.type "list") rLstQ := CallR.imp call_list_of fun xs H Q ⟨p, ys, e, h, q⟩ => ⟨p, ys, e, h.elim (fun h => .inl (.inl (.inl h))) (fun h => .inr (.inl (.inl h))), q⟩
end Fx
/-! Methods with one default, called by position, by name, without it; list(range(..)) -/
namespace Fx
open PySem PySem.Spec PyProof.Rows L2
abbrev BindK (x q : Str) (st : Stmt) (ps : List Str) (kw : Str) (n : Nat) : Prop := ∀ (T : Addr) (kV doc pm : Value) (an : Option Addr) (cdv ct : Value) (us its : List Value) (v : Value), us.length = n → its.length = 1 →
  ∃ k, bindArgs (PySem.W.fnOf x q (defArgs st) (defBody st) (defScope st) (.ref T) kV doc pm an cdv ct) ⟨us, [(kw, v)]⟩ = seqItems? (.ref T) >>= k ∧ k (some its.toArray) = pure (ps.zip (us ++ [v]))
def KwLast (K : PySem.W.Frag) (fd : FuncData) (ps : List Str) (kw : Str) : Prop := ∀ (s : Shared) (us : List Value) (v : Value), K.In s.heap → (us ++ [v]).length = ps.length → BindsTo s fd ⟨us, [(kw, v)]⟩ (ps.zip (us ++ [v]))
structure CalMD (P : Program) (w : World) (K : PySem.W.Frag) (mg : Str → Option Value) (base : Heap) (CX : CXT) (k : Nat) (C : Addr) (m : Str) (ps : List Str) (dv : V) (kw : Str) (sp : Sp) : Prop where
  ex : ∃ f fd ds, Meth K C m f ∧ Binds K fd ps [] ∧ Vals [dv] ds ∧ Binds K fd ps ds ∧ KwLast K fd ps kw ∧ FnOk P w K mg base CX k f fd ps sp
section
variable {P : Program} {w : World} {K : PySem.W.Frag} {mg : Str → Option Value} {base : Heap} {CX : CXT} {k : Nat} {C : Addr} {m : Str} {ps : List Str} {dv : V} {kw : Str} {sp : Sp}
theorem kwLast_of {x q : Str} {st : Stmt} {f : Addr} {fd : FuncData} (F : FunD K x q (defArgs st) (defBody st) (defScope st) [dv] [] f fd) (n : Nat) (hn : n + 1 = ps.length) (h : BindK x q st ps kw n) : KwLast K fd ps kw := by
  obtain ⟨oc, od, dV, kV, doc, pm, an, cdv, ct, osl, rfl, lk, hcd, hD, hK⟩ := F.ex
  rcases hD with ⟨e, _⟩ | ⟨_, T, o, its, m, rfl, lT, oT, rT⟩
  · exact absurd e (by simp)
  · intro s us v X hlen
    have l1 : its.length = 1 := rT.length.symm
    have l2 : us.length = n := by
      rw [List.length_append, List.length_singleton] at hlen
      omega
    obtain ⟨k, e1, e2⟩ := h T kV doc pm an cdv ct us its v l2 l1
    refine BindsTo.of_looks fun M => ?_
    rw [e1]
    exact looks_items X lT oT (.of_pure e2)
theorem calMD_of {x q : Str} {st : Stmt} {f : Addr} {fd : FuncData} (F : FunD K x q (defArgs st) (defBody st) (defScope st) [dv] [] f fd) (M : Meth K C m f) (n : Nat) (hn : n + 1 = ps.length) (b1 : BindD x q st ps (n + 1) 1) (b0 : BindD x q st ps n 0) (bk : BindK x q st ps kw n) (ok : FnOk P w K mg base CX k f fd ps sp) : CalMD P w K mg base CX k C m ps dv kw sp := by
  obtain ⟨ds1, v1, B1⟩ := F.binds1 (ps := ps) (n + 1) 1 (by simp) (by simpa using hn) b1
  obtain ⟨ds0, v0, B0⟩ := F.binds1 (ps := ps) n 0 (by simp) (by simpa using hn) b0
  have e : ds1 = [] := by
    cases v1
    rfl
  subst e
  exact ⟨f, fd, ds0, M, B1, v0, B0, kwLast_of F n hn bk, ok⟩
theorem KwLast.to {fd : FuncData} (h : KwLast K fd ps kw) (b : Binds K fd ps []) : KBinds K fd ps [kw] (fun us ws => us ++ ws.take 1) (fun vs zs => vs ++ zs.take 1) where
  to s us ws X hl := match ws, hl with
    | [], hl => by
      have e := b s us X (by simpa using hl)
      exact e
    | w :: r, hl => h s us w X hl
  rel r rz := r.append (rz.take 1)
end
section
variable {X : Cx} {k : Nat} {f C : Addr} {fd : FuncData} {ps : List Str} {sp : Sp} {x m kw : Str} {p pos apos : Pos} {e o : Expr} {es : List Expr} {kws : List Keyword} {ta : TE} {t tk : TA} {CX : CXT} {E : XK}
/-- o.m(e, .., kw = v) -/
def tMethK (C : Addr) (m : Str) (sp : Sp) (E : XK) (ta : TE) (t tk : TA) : TE := fun σ H Q => ta σ H fun x H1 => ∃ a dx fs, x = .ref a ∧ H1 a = some (.ins C dx fs) ∧ fs.lookup m = none ∧ t σ H1 fun vs H2 => tk σ H2 fun zs H3 => ∃ z, zs = [z] ∧ sp (x :: (vs ++ [z])) H3 Q E
theorem pe_methK {pl : Sem Bool} (he : PE X o ta) (c : Cls X.K C) (hm : Meth X.K C m f) (F : FnOk X.prog X.w X.K X.mg X.base CX k f fd ps sp) (hr : Room k X.A) (hb : Binds X.K fd ps []) (hl : KwLast X.K fd ps kw) (hx : Passes CX X E) (ha : PA X (e :: es) t) (hkw : PK X kws tk)
    (hall : (backToKw pos (keywordEach kws X.env)).all (·.1.isSome) = true := by rfl) (hks : (backToKw pos (keywordEach kws X.env)).filterMap (·.1) = [kw] := by rfl)
    (hst : starEach (e :: es) X.env = (false, eval e X.env) :: starEach es X.env := by rfl) (hpl : ((backTo pos (starEach (e :: es) X.env)).any (·.1) || (backToKw pos (keywordEach kws X.env)).any (·.1.isNone)) = false := by rfl)
    (ht : eval (.Call (.Attribute o m apos) (e :: es) kws pos) X.env = (do
      let ov ← eval o X.env
      standAt apos.atName
      let (f, first) ← holding [ov] (getMethod ov m pl)
      callWith pos f first (backTo pos (starEach (e :: es) X.env)) (backToKw pos (keywordEach kws X.env))) := by rfl) :
    PE X (.Call (.Attribute o m apos) (e :: es) kws pos) (tMethK C m sp E ta t tk) := by
  refine ⟨fun pins s σ H Q I h => ?_⟩
  refine PySem.W.methodCall_KW (pl := pl) (thn (he.run pins s σ H _ I h) fun u s1 ⟨x, H1, I1, rx, a, dx, fs, ex, ea, l, q⟩ => ?_) ht
  subst ex
  obtain rfl : u = Value.ref a := rx
  refine getmeth_ok I1 ea c hm l ?_
  refine PySem.W.callWith_KW (first := [.ref a]) (h₀ := X.base) I.ok.mod.kin hm.kp hall (thn (ha.run pos pins s1 σ H1 _ I1 q) fun us s2 ⟨vs, H2, I2, r, q2⟩ => ?_) hpl hst
  refine thn (hkw.run pos pins s2 σ H2 _ I2 q2) fun ws s3 ⟨zs, H3, I3, rz, z, ez, q3⟩ => ⟨I3.kIn, ?_⟩
  rw [hks]
  subst ez
  exact run_fnk (us := .ref a :: us) (vs := .ref a :: vs) F hr (hl.to hb) hx I3 (.cons rfl r) rz q3
end
/-- a while by a count that falls; the test's ways stay folded -/
theorem whileF {c : TT} {tb : TS} {D : Ends} {σ : L2.St} {H : Hp} (W : Nat → L2.St → Hp → Prop) (m : Nat) (h0 : W m σ H)
    (hs : ∀ m σ H, W m σ H → ∀ A B : Hp → Prop, (∀ H1, tb { D with nx := fun σ' H' => ∃ m', m' < m ∧ W m' σ' H', ct := fun σ' H' => ∃ m', m' < m ∧ W m' σ' H', bk := D.nx } σ H1 → A H1) → (∀ H1, D.nx σ H1 → B H1) → c σ H fun b H1 => if b = true then A H1 else B H1) : tWhile c tb D σ H := by
  refine ⟨W, ⟨m, h0⟩, fun m σ H p => ?_⟩
  exact hs m σ H p _ _ (fun H1 t => ⟨fun σ' H' => ∃ m', m' < m ∧ W m' σ' H', fun σ' H' k => k, t⟩) (fun H1 x => x)
end Fx
/-! Order of data: x > y of lists, sorted of data; a def with one default, by name -/
namespace Fx
open PySem PySem.Spec PyProof.Rows L2
def rGtD (K : PySem.W.Frag) : R2 := fun x y H Q => ∃ d e, Dp K H x d ∧ Dp K H y e ∧ PySem.W.alike d e = true ∧ d ≠ .none ∧ d.depth ≤ 8 ∧ Q (.bl (PySem.W.dataLt e d)) H
theorem op_gtD {X : Cx} (hu : X.A.units + 64 < cLine) : OpR X (compareOp .Gt) (rGtD X.K) := by
  intro pins s σ H x y v u Q I rx ry h
  obtain ⟨d, e, hd, he, al, nn, dp, q⟩ := h
  obtain ⟨as, r1⟩ := Dp.reads I d x v hd rx
  obtain ⟨bs, r2⟩ := Dp.reads I e y u he ry
  exact PySem.W.gt_data r1 r2 al nn (by omega) ⟨.bl _, H, I, rfl, q⟩
abbrev srtD (ps : List (V × PyData)) : List (V × PyData) := ps.mergeSort (PySem.W.dataLe false (fun p => p.2))
/-- sorted(xs), xs a list of tuples of any number, that are alike -/
def rSortD (K : PySem.W.Frag) : List V → Hp → VK → Prop := fun vs H Q => ∃ (a : Addr) (ps : List (V × PyData)), vs = [V.ref a] ∧ SqL K H a (ps.map (·.1)) ∧ (∀ p ∈ ps, Dp K H p.1 p.2) ∧ (∀ p ∈ ps, ∀ q ∈ ps, PySem.W.alike p.2 q.2 = true) ∧ (∀ p ∈ ps, ∃ x r, p.2 = .tuple (x :: r)) ∧ (∀ p ∈ ps, p.2.depth ≤ 8) ∧
  ∀ q, H q = none → Q (.ref q) (upd H q (.lst ((srtD ps).map (·.1))))
theorem each_of {X : Cx} {pins : List (Addr × Obj)} {σ : L2.St} {H : Hp} {s : Shared} (I : Inv X pins σ H s) : ∀ {ps : List (V × PyData)} {its : List Value}, Vals (ps.map (·.1)) its → (∀ p ∈ ps, Dp X.K H p.1 p.2) →
    PySem.W.EachIs (fun v (p : V × PyData) => RelV p.1 v) its ps ∧ PySem.W.EachIs (fun v (p : V × PyData) => ∃ as, Reads s.heap v p.2 as) its ps
  | [], its, r, _ => by
    cases r
    exact ⟨.nil, .nil⟩
  | p :: ps, its, r, h => by
    cases r with
    | cons r1 r2 =>
      obtain ⟨e1, e2⟩ := each_of I r2 fun q hq => h q (List.mem_cons_of_mem _ hq)
      exact ⟨.cons r1 e1, .cons (Dp.reads I p.2 p.1 _ (h p List.mem_cons_self) r1) e2⟩
theorem vals_each : ∀ {ps : List (V × PyData)} {out : List Value}, PySem.W.EachIs (fun v (p : V × PyData) => RelV p.1 v) out ps → Vals (ps.map (·.1)) out
  | _, _, .nil => .nil
  | _, _, .cons h t => .cons h (vals_each t)
theorem sort_D {X : Cx} (hu : X.A.units + 64 < cLine) : CallR X (.builtin "sorted") (rSortD X.K) := by
  intro pins s σ H vs us Q I r h
  obtain ⟨a, ps, rfl, hs, hd, al, tp, dp, q⟩ := h
  obtain ⟨its, rv, hl, hz⟩ := I.list hs
  obtain ⟨u, rfl, ru⟩ := r.one
  cases ru
  obtain ⟨e1, e2⟩ := each_of I rv hd
  have hz2 : ps.length ≤ sizeLine := by
    rw [List.length_map] at hz
    exact hz
  refine PySem.W.sorted_data (enc := fun p : V × PyData => p.2) hl.isList e1 e2 ?_ ?_ hz2 (fun b hb => by have := dp b hb; omega) fun out ol he => ?_
  · intro d hd d' hd'
    obtain ⟨b, hb, rfl⟩ := List.mem_map.mp hd
    obtain ⟨b', hb', rfl⟩ := List.mem_map.mp hd'
    exact al b hb b' hb'
  · refine .inl fun d hd => ?_
    obtain ⟨b, hb, rfl⟩ := List.mem_map.mp hd
    exact tp b hb
  obtain ⟨ep, he'⟩ := PyProof.Rows.sortedAll_at s.heap its out.toArray
  have hlen : ((srtD ps).map (·.1)).length ≤ sizeLine := by
    rw [List.length_map, List.length_mergeSort]
    exact hz2
  exact ⟨.ref _, upd H (s.heap.objs.size + 1) (.lst ((srtD ps).map (·.1))), I.laid (t' := s.toks) (fun _ _ => PyProof.Rows.sortedAll_old) (Nat.le_succ _) ⟨hlen, out, ep, vals_each he, he'⟩, rfl, q _ (I.hok.fresh (Nat.le_succ _))⟩
/-! ### a def with one default, by name -/
structure CalDK (P : Program) (w : World) (K : PySem.W.Frag) (mg : Str → Option Value) (base : Heap) (CX : CXT) (k : Nat) (x : Str) (ps : List Str) (dv : V) (kw : Str) (sp : Sp) : Prop where
  ex : ∃ f fd ds, mg x = some (.ref f) ∧ PySem.W.keepIn K (.ref f) = true ∧ Binds K fd ps [] ∧ Vals [dv] ds ∧ Binds K fd ps ds ∧ KwLast K fd ps kw ∧ FnOk P w K mg base CX k f fd ps sp
section
variable {P : Program} {w : World} {K : PySem.W.Frag} {mg : Str → Option Value} {base : Heap} {CX : CXT} {x : Str} {st : Stmt} {N ps : List Str} {k : Nat} {dv : V} {kw : Str} {sp : Sp}
theorem CalDK.d (M : CalDK P w K mg base CX k x ps dv kw sp) : CalD P w K mg base CX k x ps dv sp := by
  obtain ⟨f, fd, ds, g, kp, b, v, b0, _, F⟩ := M.ex
  exact ⟨f, fd, ds, g, kp, b, v, b0, F⟩
theorem CalDK.full (M : CalDK P w K mg base CX k x ps dv kw sp) : Cal P w K mg base CX k x ps sp := M.d.full
theorem SrcD.ofK (S : SrcD K mg x st dv) (n : Nat) (hn : n + 1 = ps.length) (b1 : BindD x x st ps (n + 1) 1) (b0 : BindD x x st ps n 0) (bk : BindK x x st ps kw n) (ok : ∀ {f fd}, FunD K x x (defArgs st) (defBody st) (defScope st) [dv] [] f fd → FnOk P w K mg base CX k f fd ps sp) : CalDK P w K mg base CX k x ps dv kw sp := by
  obtain ⟨f, fd, g, F⟩ := S
  obtain ⟨ds1, v1, B1⟩ := F.binds1 (ps := ps) (n + 1) 1 (by simp) (by simpa using hn) b1
  obtain ⟨ds0, v0, B0⟩ := F.binds1 (ps := ps) n 0 (by simp) (by simpa using hn) b0
  have e : ds1 = [] := by
    cases v1
    rfl
  subst e
  exact ⟨f, fd, ds0, g, F.kp, B1, v0, B0, kwLast_of F n hn bk, ok F⟩
end
section
variable {X : Cx} {CX : CXT} {E : XK} {k : Nat} {x kw : Str} {ps : List Str} {dv : V} {sp : Sp} {e : Expr} {es : List Expr} {kws : List Keyword} {t tk : TA} {p pos : Pos}
/-- f(e, .., kw = v) -/
theorem pe_calDK (C : CalDK X.prog X.w X.K X.mg X.base CX k x ps dv kw sp) (hr : Room k X.A) (hx : Passes CX X E) (ha : PA X (e :: es) t) (hkw : PK X kws tk) (hg : Gl X x := by rfl)
    (hall : (backToKw pos (keywordEach kws X.env)).all (·.1.isSome) = true := by rfl) (hks : (backToKw pos (keywordEach kws X.env)).filterMap (·.1) = [kw] := by rfl)
    (hdb : (x == ("__debug__" : Str)) = false := by decide) (he : starEach (e :: es) X.env = (false, eval e X.env) :: starEach es X.env := by rfl)
    (hpl : ((backTo pos (starEach (e :: es) X.env)).any (·.1) || (backToKw pos (keywordEach kws X.env)).any (·.1.isNone)) = false := by rfl) :
    PE X (.Call (.Name x p) (e :: es) kws pos) (tCallK sp (fun vs zs => vs ++ zs.take 1) E t tk) := by
  obtain ⟨f, fd, ds, g, kp, b, _, _, kl, F⟩ := C.ex
  exact pe_callK F hr hg g kp (kl.to b) hx ha hkw hall hks hdb he hpl
end
theorem blkOk_cast {N : List Str} {sc sc' scope : Scope} {own : List (Str × Nat)} (e : sc' = sc) (h : BlkOk N sc scope own) : BlkOk N sc' scope own := e ▸ h
end Fx
namespace K13
open PySem PySem.Spec PyProof.Rows L2 Fx

def top (i : Nat) : Stmt := PySem.Challenge.pw_fablemill_k13_whole_best_lot.main.body.getD i (.Pass ⟨0, 0, 0, 0⟩)
abbrev s_Lot_MU_initU : Stmt := inClass (top 20) 0
abbrev N_Lot_MU_initU : List Str := ["self", "words", "word"]
theorem sc_Lot_MU_initU : FnScope N_Lot_MU_initU ["self", "words"] (defScope s_Lot_MU_initU) := ⟨rfl, rfl, rfl, by decide +kernel, rfl, by decide +kernel, by decide +kernel⟩
theorem bf_Lot_MU_initU : BindD "__init__" "Lot.__init__" s_Lot_MU_initU ["self", "words"] 2 1 := fun _ _ _ _ _ _ _ us its h1 h2 => match us, its, h1, h2 with | [_, _], [_], _, _ => ⟨_, rfl, rfl⟩
theorem bd_Lot_MU_initU : BindD "__init__" "Lot.__init__" s_Lot_MU_initU ["self", "words"] 1 0 := fun _ _ _ _ _ _ _ us its h1 h2 => match us, its, h1, h2 with | [_], [_], _, _ => ⟨_, rfl, rfl⟩
abbrev s_Lot_MU_iterU : Stmt := inClass (top 20) 2
abbrev N_Lot_MU_iterU : List Str := ["self"]
theorem sc_Lot_MU_iterU : FnScope N_Lot_MU_iterU ["self"] (defScope s_Lot_MU_iterU) := ⟨rfl, rfl, rfl, by decide +kernel, rfl, by decide +kernel, by decide +kernel⟩
theorem bn_Lot_MU_iterU : BindQ "__iter__" "Lot.__iter__" s_Lot_MU_iterU ["self"] := fun _ _ _ _ _ _ us hl => match us, hl with | [_], _ => rfl
abbrev s_Lot_MU_lenU : Stmt := inClass (top 20) 3
abbrev N_Lot_MU_lenU : List Str := ["self"]
theorem sc_Lot_MU_lenU : FnScope N_Lot_MU_lenU ["self"] (defScope s_Lot_MU_lenU) := ⟨rfl, rfl, rfl, by decide +kernel, rfl, by decide +kernel, by decide +kernel⟩
theorem bn_Lot_MU_lenU : BindQ "__len__" "Lot.__len__" s_Lot_MU_lenU ["self"] := fun _ _ _ _ _ _ us hl => match us, hl with | [_], _ => rfl
abbrev s_Lot_M_half_bytes : Stmt := inClass (top 20) 9
abbrev N_Lot_M_half_bytes : List Str := ["self", "text", "row", "piece"]
theorem sc_Lot_M_half_bytes : FnScope N_Lot_M_half_bytes ["self", "text"] (defScope s_Lot_M_half_bytes) := ⟨rfl, rfl, rfl, by decide +kernel, rfl, by decide +kernel, by decide +kernel⟩
theorem bn_Lot_M_half_bytes : BindQ "half_bytes" "Lot.half_bytes" s_Lot_M_half_bytes ["self", "text"] := fun _ _ _ _ _ _ us hl => match us, hl with | [_, _], _ => rfl
abbrev s_Lot_M_weight : Stmt := inClass (top 20) 10
abbrev N_Lot_M_weight : List Str := ["self", "text"]
theorem sc_Lot_M_weight : FnScope N_Lot_M_weight ["self", "text"] (defScope s_Lot_M_weight) := ⟨rfl, rfl, rfl, by decide +kernel, rfl, by decide +kernel, by decide +kernel⟩
theorem bn_Lot_M_weight : BindQ "weight" "Lot.weight" s_Lot_M_weight ["self", "text"] := fun _ _ _ _ _ _ us hl => match us, hl with | [_, _], _ => rfl
abbrev s__wall : Stmt := top 0
abbrev N__wall : List Str := ["k"]
theorem sc__wall : FnScope N__wall ["k"] (defScope s__wall) := ⟨rfl, rfl, rfl, by decide +kernel, rfl, by decide +kernel, by decide +kernel⟩
theorem bn__wall : BindP "_wall" s__wall ["k"] := fun _ _ _ _ _ _ us hl => match us, hl with | [_], _ => rfl
abbrev s_check_text : Stmt := top 13
abbrev N_check_text : List Str := ["text", "place", "sign"]
theorem sc_check_text : FnScope N_check_text ["text"] (defScope s_check_text) := ⟨rfl, rfl, rfl, by decide +kernel, rfl, by decide +kernel, by decide +kernel⟩
theorem bn_check_text : BindP "check_text" s_check_text ["text"] := fun _ _ _ _ _ _ us hl => match us, hl with | [_], _ => rfl
abbrev s_codes : Stmt := top 14
abbrev N_codes : List Str := ["sign", "place"]
theorem sc_codes : FnScope N_codes ["sign"] (defScope s_codes) := ⟨rfl, rfl, rfl, by decide +kernel, rfl, by decide +kernel, by decide +kernel⟩
theorem bn_codes : BindP "codes" s_codes ["sign"] := fun _ _ _ _ _ _ us hl => match us, hl with | [_], _ => rfl
abbrev s_plain_codes : Stmt := top 15
abbrev N_plain_codes : List Str := ["text", "row", "sign"]
theorem sc_plain_codes : FnScope N_plain_codes ["text"] (defScope s_plain_codes) := ⟨rfl, rfl, rfl, by decide +kernel, rfl, by decide +kernel, by decide +kernel⟩
theorem bn_plain_codes : BindP "plain_codes" s_plain_codes ["text"] := fun _ _ _ _ _ _ us hl => match us, hl with | [_], _ => rfl
abbrev s_word_cost : Stmt := top 16
abbrev N_word_cost : List Str := ["word"]
theorem sc_word_cost : FnScope N_word_cost ["word"] (defScope s_word_cost) := ⟨rfl, rfl, rfl, by decide +kernel, rfl, by decide +kernel, by decide +kernel⟩
theorem bn_word_cost : BindP "word_cost" s_word_cost ["word"] := fun _ _ _ _ _ _ us hl => match us, hl with | [_], _ => rfl
abbrev s_pieces : Stmt := top 17
abbrev N_pieces : List Str := ["text", "row", "run", "sign"]
theorem sc_pieces : FnScope N_pieces ["text"] (defScope s_pieces) := ⟨rfl, rfl, rfl, by decide +kernel, rfl, by decide +kernel, by decide +kernel⟩
theorem bn_pieces : BindP "pieces" s_pieces ["text"] := fun _ _ _ _ _ _ us hl => match us, hl with | [_], _ => rfl
abbrev s_pairs_of : Stmt := top 18
abbrev N_pairs_of : List Str := ["half_bytes", "row", "place"]
theorem sc_pairs_of : FnScope N_pairs_of ["half_bytes"] (defScope s_pairs_of) := ⟨rfl, rfl, rfl, by decide +kernel, rfl, by decide +kernel, by decide +kernel⟩
theorem bn_pairs_of : BindP "pairs_of" s_pairs_of ["half_bytes"] := fun _ _ _ _ _ _ us hl => match us, hl with | [_], _ => rfl
abbrev s_is_short_word : Stmt := top 19
abbrev N_is_short_word : List Str := ["thing", "sign"]
theorem sc_is_short_word : FnScope N_is_short_word ["thing"] (defScope s_is_short_word) := ⟨rfl, rfl, rfl, by decide +kernel, rfl, by decide +kernel, by decide +kernel⟩
theorem bn_is_short_word : BindP "is_short_word" s_is_short_word ["thing"] := fun _ _ _ _ _ _ us hl => match us, hl with | [_], _ => rfl
abbrev s_check_texts : Stmt := top 22
abbrev N_check_texts : List Str := ["texts", "text"]
theorem sc_check_texts : FnScope N_check_texts ["texts"] (defScope s_check_texts) := ⟨rfl, rfl, rfl, by decide +kernel, rfl, by decide +kernel, by decide +kernel⟩
theorem bn_check_texts : BindP "check_texts" s_check_texts ["texts"] := fun _ _ _ _ _ _ us hl => match us, hl with | [_], _ => rfl
abbrev s_counted : Stmt := top 23
abbrev N_counted : List Str := ["texts", "found", "text", "piece", "ordered", "run"]
theorem sc_counted : FnScope N_counted ["texts"] (defScope s_counted) := ⟨rfl, rfl, rfl, by decide +kernel, rfl, by decide +kernel, by decide +kernel⟩
theorem bn_counted : BindP "counted" s_counted ["texts"] := fun _ _ _ _ _ _ us hl => match us, hl with | [_], _ => rfl
abbrev s_total : Stmt := top 24
abbrev N_total : List Str := ["texts", "lot", "empty", "text", "word"]
theorem sc_total : FnScope N_total ["texts", "lot"] (defScope s_total) := ⟨rfl, rfl, rfl, by decide +kernel, rfl, by decide +kernel, by decide +kernel⟩
theorem bn_total : BindP "total" s_total ["texts", "lot"] := fun _ _ _ _ _ _ us hl => match us, hl with | [_, _], _ => rfl
abbrev s_gain_of : Stmt := top 25
abbrev N_gain_of : List Str := ["run", "many", "cost"]
theorem sc_gain_of : FnScope N_gain_of ["run", "many"] (defScope s_gain_of) := ⟨rfl, rfl, rfl, by decide +kernel, rfl, by decide +kernel, by decide +kernel⟩
theorem bn_gain_of : BindP "gain_of" s_gain_of ["run", "many"] := fun _ _ _ _ _ _ us hl => match us, hl with | [_, _], _ => rfl
abbrev s_best_lot : Stmt := top 26
abbrev N_best_lot : List Str := ["texts", "most", "table", "gains", "run", "pair"]
theorem sc_best_lot : FnScope N_best_lot ["texts", "most"] (defScope s_best_lot) := ⟨rfl, rfl, rfl, by decide +kernel, rfl, by decide +kernel, by decide +kernel⟩
theorem bf_best_lot : BindD "best_lot" "best_lot" s_best_lot ["texts", "most"] 2 1 := fun _ _ _ _ _ _ _ us its h1 h2 => match us, its, h1, h2 with | [_, _], [_], _, _ => ⟨_, rfl, rfl⟩
theorem bd_best_lot : BindD "best_lot" "best_lot" s_best_lot ["texts", "most"] 1 0 := fun _ _ _ _ _ _ _ us its h1 h2 => match us, its, h1, h2 with | [_], [_], _, _ => ⟨_, rfl, rfl⟩
theorem bk_best_lot : BindK "best_lot" "best_lot" s_best_lot ["texts", "most"] "most" 1 := fun _ _ _ _ _ _ _ us its v h1 h2 => match us, its, h1, h2 with | [_], [_], _, _ => ⟨_, rfl, rfl⟩
abbrev s__law_bag : Stmt := top 28
abbrev N__law_bag : List Str := ["_law_script", "_law_mixed", "_law_cell"]
theorem sc__law_bag : FnScope N__law_bag ["_law_script"] (defScope s__law_bag) := ⟨rfl, rfl, rfl, by decide +kernel, rfl, by decide +kernel, by decide +kernel⟩
theorem bn__law_bag : BindP "_law_bag" s__law_bag ["_law_script"] := fun _ _ _ _ _ _ us hl => match us, hl with | [_], _ => rfl
abbrev s__law_pick : Stmt := top 29
abbrev N__law_pick : List Str := ["_law_bag_here", "_law_many", "_law_number", "_law_cell"]
theorem sc__law_pick : FnScope N__law_pick ["_law_bag_here", "_law_many"] (defScope s__law_pick) := ⟨rfl, rfl, rfl, by decide +kernel, rfl, by decide +kernel, by decide +kernel⟩
theorem bn__law_pick : BindP "_law_pick" s__law_pick ["_law_bag_here", "_law_many"] := fun _ _ _ _ _ _ us hl => match us, hl with | [_, _], _ => rfl
abbrev s__law_integer : Stmt := top 30
abbrev N__law_integer : List Str := ["_law_thing"]
theorem sc__law_integer : FnScope N__law_integer ["_law_thing"] (defScope s__law_integer) := ⟨rfl, rfl, rfl, by decide +kernel, rfl, by decide +kernel, by decide +kernel⟩
theorem bn__law_integer : BindP "_law_integer" s__law_integer ["_law_thing"] := fun _ _ _ _ _ _ us hl => match us, hl with | [_], _ => rfl
abbrev s__law_codes : Stmt := top 31
abbrev N__law_codes : List Str := ["_law_sign", "_law_rows_here", "_law_k", "_law_place"]
theorem sc__law_codes : FnScope N__law_codes ["_law_sign"] (defScope s__law_codes) := ⟨rfl, rfl, rfl, by decide +kernel, rfl, by decide +kernel, by decide +kernel⟩
theorem bn__law_codes : BindP "_law_codes" s__law_codes ["_law_sign"] := fun _ _ _ _ _ _ us hl => match us, hl with | [_], _ => rfl
abbrev s__law_word : Stmt := top 32
abbrev N__law_word : List Str := ["_law_bag_here", "_law_letters", "_law_at", "_law_size_here", "_law_step"]
theorem sc__law_word : FnScope N__law_word ["_law_bag_here"] (defScope s__law_word) := ⟨rfl, rfl, rfl, by decide +kernel, rfl, by decide +kernel, by decide +kernel⟩
theorem bn__law_word : BindP "_law_word" s__law_word ["_law_bag_here"] := fun _ _ _ _ _ _ us hl => match us, hl with | [_], _ => rfl
abbrev s__law_distinct : Stmt := top 33
abbrev N__law_distinct : List Str := ["_law_words", "_law_found", "_law_word_here"]
theorem sc__law_distinct : FnScope N__law_distinct ["_law_words"] (defScope s__law_distinct) := ⟨rfl, rfl, rfl, by decide +kernel, rfl, by decide +kernel, by decide +kernel⟩
theorem bn__law_distinct : BindP "_law_distinct" s__law_distinct ["_law_words"] := fun _ _ _ _ _ _ us hl => match us, hl with | [_], _ => rfl
abbrev s__law_pieces : Stmt := top 34
abbrev N__law_pieces : List Str := ["_law_text", "_law_pieces_here", "_law_sign"]
theorem sc__law_pieces : FnScope N__law_pieces ["_law_text"] (defScope s__law_pieces) := ⟨rfl, rfl, rfl, by decide +kernel, rfl, by decide +kernel, by decide +kernel⟩
theorem bn__law_pieces : BindP "_law_pieces" s__law_pieces ["_law_text"] := fun _ _ _ _ _ _ us hl => match us, hl with | [_], _ => rfl
abbrev s__law_cost : Stmt := top 35
abbrev N__law_cost : List Str := ["_law_text", "_law_sign"]
theorem sc__law_cost : FnScope N__law_cost ["_law_text"] (defScope s__law_cost) := ⟨rfl, rfl, rfl, by decide +kernel, rfl, by decide +kernel, by decide +kernel⟩
theorem bn__law_cost : BindP "_law_cost" s__law_cost ["_law_text"] := fun _ _ _ _ _ _ us hl => match us, hl with | [_], _ => rfl
abbrev s__law_pool : Stmt := top 36
abbrev N__law_pool : List Str := ["_law_bag_here", "_law_many", "_law_plainly", "_law_pool_here", "_law_step", "_law_size_here", "_law_k"]
theorem sc__law_pool : FnScope N__law_pool ["_law_bag_here"] (defScope s__law_pool) := ⟨rfl, rfl, rfl, by decide +kernel, rfl, by decide +kernel, by decide +kernel⟩
theorem bn__law_pool : BindP "_law_pool" s__law_pool ["_law_bag_here"] := fun _ _ _ _ _ _ us hl => match us, hl with | [_], _ => rfl
abbrev s__law_rows : Stmt := top 37
abbrev N__law_rows : List Str := ["_law_bag_here", "_law_pool_here", "_law_counts", "_law_signs", "_law_rows_here", "_law_turn", "_law_k", "_law_piece", "_law_word_here"]
theorem sc__law_rows : FnScope N__law_rows ["_law_bag_here", "_law_pool_here"] (defScope s__law_rows) := ⟨rfl, rfl, rfl, by decide +kernel, rfl, by decide +kernel, by decide +kernel⟩
theorem bn__law_rows : BindP "_law_rows" s__law_rows ["_law_bag_here", "_law_pool_here"] := fun _ _ _ _ _ _ us hl => match us, hl with | [_, _], _ => rfl
abbrev s__law_runs : Stmt := top 38
abbrev N__law_runs : List Str := ["_law_rows_here", "_law_found", "_law_text", "_law_piece", "_law_word_here"]
theorem sc__law_runs : FnScope N__law_runs ["_law_rows_here"] (defScope s__law_runs) := ⟨rfl, rfl, rfl, by decide +kernel, rfl, by decide +kernel, by decide +kernel⟩
theorem bn__law_runs : BindP "_law_runs" s__law_runs ["_law_rows_here"] := fun _ _ _ _ _ _ us hl => match us, hl with | [_], _ => rfl
abbrev s__law_base : Stmt := top 39
abbrev N__law_base : List Str := ["_law_rows_here", "_law_table", "_law_known", "_law_size_here", "_law_text", "_law_line", "_law_piece"]
theorem sc__law_base : FnScope N__law_base ["_law_rows_here", "_law_table"] (defScope s__law_base) := ⟨rfl, rfl, rfl, by decide +kernel, rfl, by decide +kernel, by decide +kernel⟩
theorem bn__law_base : BindP "_law_base" s__law_base ["_law_rows_here", "_law_table"] := fun _ _ _ _ _ _ us hl => match us, hl with | [_, _], _ => rfl
abbrev s__law_size : Stmt := top 40
abbrev N__law_size : List Str := ["_law_table", "_law_base_here", "_law_names", "_law_size_here", "_law_line", "_law_word_here"]
theorem sc__law_size : FnScope N__law_size ["_law_table", "_law_base_here", "_law_names"] (defScope s__law_size) := ⟨rfl, rfl, rfl, by decide +kernel, rfl, by decide +kernel, by decide +kernel⟩
theorem bn__law_size : BindP "_law_size" s__law_size ["_law_table", "_law_base_here", "_law_names"] := fun _ _ _ _ _ _ us hl => match us, hl with | [_, _, _], _ => rfl
abbrev s__law_greatest : Stmt := top 41
abbrev N__law_greatest : List Str := ["_law_table", "_law_limit", "_law_gains", "_law_line", "_law_gain", "_law_pair"]
theorem sc__law_greatest : FnScope N__law_greatest ["_law_table", "_law_limit"] (defScope s__law_greatest) := ⟨rfl, rfl, rfl, by decide +kernel, rfl, by decide +kernel, by decide +kernel⟩
theorem bn__law_greatest : BindP "_law_greatest" s__law_greatest ["_law_table", "_law_limit"] := fun _ _ _ _ _ _ us hl => match us, hl with | [_, _], _ => rfl
abbrev s__law_rivals : Stmt := top 42
abbrev N__law_rivals : List Str := ["_law_table", "_law_limit", "_law_rivals_here", "_law_line", "_law_names"]
theorem sc__law_rivals : FnScope N__law_rivals ["_law_table", "_law_limit"] (defScope s__law_rivals) := ⟨rfl, rfl, rfl, by decide +kernel, rfl, by decide +kernel, by decide +kernel⟩
theorem bn__law_rivals : BindP "_law_rivals" s__law_rivals ["_law_table", "_law_limit"] := fun _ _ _ _ _ _ us hl => match us, hl with | [_, _], _ => rfl
abbrev s__law_told : Stmt := top 43
abbrev N__law_told : List Str := ["_law_rows_here", "_law_limit", "_law_way"]
theorem sc__law_told : FnScope N__law_told ["_law_rows_here", "_law_limit", "_law_way"] (defScope s__law_told) := ⟨rfl, rfl, rfl, by decide +kernel, rfl, by decide +kernel, by decide +kernel⟩
theorem bn__law_told : BindP "_law_told" s__law_told ["_law_rows_here", "_law_limit", "_law_way"] := fun _ _ _ _ _ _ us hl => match us, hl with | [_, _, _], _ => rfl
abbrev s__law_best : Stmt := top 44
abbrev N__law_best : List Str := ["_law_rows_here", "_law_limit", "_law_way", "_law_rival", "_law_kept", "_law_chosen", "_law_names", "_law_table", "_law_base_here", "_law_least", "_law_rivals_here", "_law_others", "_law_told_here", "_law_other", "_law_word_here"]
theorem sc__law_best : FnScope N__law_best ["_law_rows_here", "_law_limit", "_law_way", "_law_rival"] (defScope s__law_best) := ⟨rfl, rfl, rfl, by decide +kernel, rfl, by decide +kernel, by decide +kernel⟩
theorem bn__law_best : BindP "_law_best" s__law_best ["_law_rows_here", "_law_limit", "_law_way", "_law_rival"] := fun _ _ _ _ _ _ us hl => match us, hl with | [_, _, _, _], _ => rfl
abbrev s_law : Stmt := top 45
abbrev N_law : List Str := ["_law_script", "_law_bag_here", "_law_pool_here", "_law_rows_here", "_law_way", "_law_limit", "_law_good", "_law_rival", "_law_word_here", "_law_step"]
theorem sc_law : FnScope N_law ["_law_script"] (defScope s_law) := ⟨rfl, rfl, rfl, by decide +kernel, rfl, by decide +kernel, by decide +kernel⟩
theorem bn_law : BindP "law" s_law ["_law_script"] := fun _ _ _ _ _ _ us hl => match us, hl with | [_], _ => rfl
structure Tx (P : Program) (K : PySem.W.Frag) (mg : Str → Option Value) : Prop where
  b_all : mg "all" = none
  b_bool : mg "bool" = none
  b_enumerate : mg "enumerate" = none
  b_int : mg "int" = none
  b_isinstance : mg "isinstance" = none
  b_iter : mg "iter" = none
  b_len : mg "len" = none
  b_list : mg "list" = none
  b_ord : mg "ord" = none
  b_range : mg "range" = none
  b_sorted : mg "sorted" = none
  b_str : mg "str" = none
  b_sum : mg "sum" = none
  b_tuple : mg "tuple" = none
  b_super : mg "super" = none
  c_LETTERS : Cst mg "LETTERS" (.str "abcdefghijklmnopqrstuvwxyz")
  c_LONGEST : Cst mg "LONGEST" (.int 200)
  c_ROW1 : Cst mg "ROW1" (.str " etaonisrhld")
  c_ROW2 : Cst mg "ROW2" (.str "cumfpgwybvkxjqz.")
  c_ROW3 : Cst mg "ROW3" (.str "0123456789\n,'-!?")
  c_SIGNS : Cst mg "SIGNS" (.str " !\"#$\n&'()*+,-./0123456789:;<=>?@ABCDEFGHIJKLMNOPQRSTUVWXYZ[\\]^_`abcdefghijklmnopqrstuvwxyz{|}~")
  g_BadLot : mg "BadLot" = some (.ref (He.ga K "BadLot"))
  x_BadLot : XC K P "BadLot" "word" (He.ga K "BadLot")
  e_BadLot : ExcC K (He.ga K "BadLot")
  g_BadText : mg "BadText" = some (.ref (He.ga K "BadText"))
  x_BadText : XC K P "BadText" "place" (He.ga K "BadText")
  e_BadText : ExcC K (He.ga K "BadText")
  g_Lot : mg "Lot" = some (.ref (He.ga K "Lot"))
  g_TooMany : mg "TooMany" = some (.ref (He.ga K "TooMany"))
  x_TooMany : XC K P "TooMany" "kind" (He.ga K "TooMany")
  e_TooMany : ExcC K (He.ga K "TooMany")
  cl_Lot : Cls K (He.ga K "Lot")
  n_Lot_words : NoAttr K (He.ga K "Lot") "words"
  i_Lot : insB K (He.ga K "Lot") = true
  t_dfl : tupI K (.ref (He.dflAt ("Lot", some "__init__") 0 K)) [] = true
theorem new_s {H H' : Hp} {p : Addr} {o : HO} (n : H p = none) (e : upd H p o = H') : Same H H' := e ▸ same_new n
theorem new_h {H H' : Hp} {p : Addr} {o : HO} (e : upd H p o = H') : H' p = some o := e ▸ upd_same
theorem tyL {K : PySem.W.Frag} {H : Hp} {p : Addr} {xs : List V} (h : H p = some (.lst xs)) : tyV K "list" (.ref p) H := .inl ⟨rfl, xs, .inl (.inl h)⟩
theorem Same.put {H H1 : Hp} {D : Addr} {o : HO} (x : Same H H1) (hD : H D = none) : Same H (upd H1 D o) := fun a o' h => by
  rw [upd_ne (ne_of_none h hD)]
  exact x a o' h
theorem none_ne {H : Hp} {a b : Addr} {o : HO} (h : H a = some o) (hb : H b = none) : a ≠ b := ne_of_none h hb
theorem cutV_lo (xs : List V) (n : Nat) : cutV xs (some (n : Int)) none = xs.drop n := by
  unfold cutV
  rw [HT.sIx_nat, HT.sIx_none]
  by_cases h : n ≤ xs.length
  · rw [Nat.min_eq_left h, List.take_of_length_le (by rw [List.length_drop]; omega)]
  · rw [Nat.min_eq_right (by omega), List.drop_of_length_le (by omega : xs.length ≤ n), List.drop_length]
    simp
theorem cutV_hi (xs : List V) (n : Nat) : cutV xs none (some (n : Int)) = xs.take n := by
  unfold cutV
  rw [HT.sIx_nat, HT.sIx_none, List.drop_zero, Nat.sub_zero]
  by_cases h : n ≤ xs.length
  · rw [Nat.min_eq_left h]
  · rw [Nat.min_eq_right (by omega), List.take_of_length_le (by omega : xs.length ≤ n), List.take_length]
theorem cutV_two (xs : List V) (a b : Nat) : cutV xs (some (a : Int)) (some (b : Int)) = (xs.drop a).take (b - a) := by
  unfold cutV
  rw [HT.sIx_nat, HT.sIx_nat]
  by_cases h : a ≤ xs.length
  · rw [Nat.min_eq_left h]
    by_cases h2 : b ≤ xs.length
    · rw [Nat.min_eq_left h2]
    · rw [Nat.min_eq_right (by omega), List.take_of_length_le (by rw [List.length_drop]; omega), List.take_of_length_le (by rw [List.length_drop]; omega)]
  · rw [Nat.min_eq_right (by omega : xs.length ≤ a), List.drop_of_length_le (by omega : xs.length ≤ a), List.drop_length]
    simp
theorem atI_ok {xs : List Int} {a : Int} (h0 : 0 ≤ a) (h : a < ((xs.map V.int).length : Nat)) : ∃ n, atI (xs.map V.int) a = some (.int n) := by
  rw [List.length_map] at h
  have e : ixN (xs.map V.int).length a = some a.toNat := by
    unfold ixN
    rw [if_pos h0, if_pos (by rw [List.length_map]; exact h)]
  unfold atI
  rw [e]
  have hl : a.toNat < xs.length := by omega
  exact ⟨xs[a.toNat], by simp [hl]⟩
theorem atI_get {α : Type} {xs : List α} {i : Nat} {v : α} (h : xs[i]? = some v) : atI xs (i : Int) = some v := by
  have hl := (List.getElem?_eq_some_iff.mp h).1
  have e : ixN xs.length (i : Int) = some i := by
    unfold ixN
    rw [if_pos (by omega), if_pos (by omega)]
    rfl
  unfold atI
  rw [e]
  exact h
theorem atI_last {α : Type} {xs : List α} {y : α} : atI (xs ++ [y]) (-1) = some y := by
  have e : ixN (xs ++ [y]).length (-1) = some xs.length := by
    unfold ixN
    rw [if_neg (by decide), List.length_append, List.length_singleton, if_pos (by omega)]
    congr 1
    omega
  unfold atI
  rw [e]
  simp
theorem ixN_last {n : Nat} : ixN (n + 1) (-1) = some n := by
  unfold ixN
  rw [if_neg (by decide), if_pos (by omega)]
  congr 1
  omega
theorem ixN_nat {n i : Nat} (h : i < n) : ixN n (i : Int) = some i := by
  unfold ixN
  rw [if_pos (by omega), if_pos (by omega)]
  rfl
theorem mapI_get {ns : List Int} {i : Nat} (h : i < ns.length) : (ns.map V.int)[i]? = some (.int ns[i]) := by simp [h]
theorem mapI_some {ns : List Int} {i : Nat} {x : V} (h : (ns.map V.int)[i]? = some x) : ∃ n, x = V.int n ∧ ns[i]? = some n := by
  rw [List.getElem?_map] at h
  cases e : ns[i]? with
  | none => rw [e] at h; cases h
  | some z => rw [e] at h; exact ⟨z, (Option.some.inj h).symm, rfl⟩
theorem atI_mem {α : Type} {xs : List α} {a : Int} (h0 : 0 ≤ a) (h : a < (xs.length : Nat)) : ∃ c, atI xs a = some c ∧ c ∈ xs := by
  have e : ixN xs.length a = some a.toNat := by
    unfold ixN
    rw [if_pos h0, if_pos h]
  unfold atI
  rw [e]
  have hl : a.toNat < xs.length := by omega
  exact ⟨xs[a.toNat], by simp [hl], List.getElem_mem hl⟩
abbrev mi (l : List Int) : List V := l.map V.int
theorem mi_app (a b : List Int) : mi (a ++ b) = mi a ++ mi b := List.map_append
theorem mi_len (a : List Int) : (mi a).length = a.length := List.length_map ..
theorem mi_take (a : List Int) (n : Nat) : (mi a).take n = mi (a.take n) := by unfold mi; rw [List.map_take]
theorem mi_drop (a : List Int) (n : Nat) : (mi a).drop n = mi (a.drop n) := by unfold mi; rw [List.map_drop]
def rowA : Str := " etaonisrhld"
def rowB : Str := "cumfpgwybvkxjqz."
def rowC : Str := "0123456789\n,'-!?"
abbrev S1 (c : Nat) : Str := ⟨#[c]⟩
/-- the half bytes of a sign -/
def codeL (c : Nat) : List Int :=
  if 0 ≤ Txt.find rowA (S1 c) then [Txt.find rowA (S1 c)]
  else if 0 ≤ Txt.find rowB (S1 c) then [12, Txt.find rowB (S1 c)]
  else if 0 ≤ Txt.find rowC (S1 c) then [13, Txt.find rowC (S1 c)]
  else [15, (c : Int) / 16, (c : Int) % 16]
def spCodes : Sp := fun vs H Q _ => ∃ c : Nat, vs = [.str (S1 c)] ∧ ∀ (p : Addr) (H' : Hp), Same H H' → H p = none → H' p = some (.tup ((codeL c).map V.int)) → Q (.ref p) H'
def spLCodes : Sp := fun vs H Q _ => ∃ c : Nat, vs = [.str (S1 c)] ∧ ∀ (p : Addr) (H' : Hp), Same H H' → H p = none → H' p = some (.lst ((codeL c).map V.int)) → Q (.ref p) H'
theorem foldl_app {α : Type} : ∀ (n : Nat) (x acc : Array α), ((List.replicate n x).foldl (· ++ ·) acc).toList = acc.toList ++ (List.replicate n x.toList).flatten
  | 0, x, acc => by simp
  | n + 1, x, acc => by
    rw [List.replicate_succ, List.foldl_cons, foldl_app n x (acc ++ x), List.replicate_succ, List.flatten_cons, Array.toList_append, List.append_assoc]
theorem mul_list (z : Str) (n : Int) (h0 : 0 ≤ n) : (Txt.mul z n).cps.toList = (List.replicate n.toNat z.cps.toList).flatten := by
  unfold Txt.mul
  by_cases h1 : n < 1
  · have e : n.toNat = 0 := by omega
    rw [if_pos h1, e]
    rfl
  · rw [if_neg h1]
    by_cases h2 : (n == 1 || z.length == 0) = true
    · rw [if_pos h2]
      simp only [Bool.or_eq_true, beq_iff_eq] at h2
      rcases h2 with h2 | h2
      · subst h2
        simp
      · have e : z.cps.toList = [] := List.eq_nil_of_length_eq_zero (by rw [Array.length_toList]; exact h2)
        rw [e]
        simp
    · rw [if_neg h2, foldl_app]
      simp
theorem mul_one (c : Nat) (k : Int) (k0 : 0 ≤ k) : (Txt.mul (S1 c) k).length = k.toNat ∧ (∀ x ∈ (Txt.mul (S1 c) k).cps.toList, x = c) := by
  have e := mul_list (S1 c) k k0
  have e2 : (List.replicate k.toNat [c]).flatten = List.replicate k.toNat c := by
    generalize k.toNat = n
    induction n with
    | zero => rfl
    | succ n ih => rw [List.replicate_succ, List.flatten_cons, ih, List.replicate_succ]; rfl
  have e3 : (Txt.mul (S1 c) k).cps.toList = List.replicate k.toNat c := e.trans e2
  constructor
  · show (Txt.mul (S1 c) k).cps.size = _
    rw [← Array.length_toList, e3, List.length_replicate]
  · rw [e3]
    intro x hx
    exact (List.mem_replicate.mp hx).2
theorem len_app (a b : Str) : (a ++ b).length = a.length + b.length := by
  show (a.cps ++ b.cps).size = _
  rw [Array.size_append]
  rfl
theorem list_app (a b : Str) : (a ++ b).cps.toList = a.cps.toList ++ b.cps.toList := Array.toList_append
theorem cut_sub {z : Str} {lo hi : Option Int} {c : Nat} (h : c ∈ (cutS z lo hi).cps.toList) : c ∈ z.cps.toList := by
  unfold cutS at h
  exact List.mem_of_mem_drop (List.mem_of_mem_take (by simpa using h))
theorem sIx_nat' {n d : Nat} {x : Int} (h0 : 0 ≤ x) : HT.sIx n d (some x) = min x.toNat n := by
  have e : x = (x.toNat : Int) := by omega
  rw [e]
  exact HT.sIx_nat n d x.toNat
theorem cutS_len (z : Str) (lo hi : Option Int) : (cutS z lo hi).length = min (HT.sIx z.length z.length hi - HT.sIx z.length 0 lo) (z.length - HT.sIx z.length 0 lo) := by
  show (cutS z lo hi).cps.size = _
  unfold cutS
  rw [List.size_toArray, List.length_take, List.length_drop, Array.length_toList]
  rfl
theorem cut_hi (z : Str) (x : Int) (h0 : 0 ≤ x) : (cutS z none (some x)).length ≤ x.toNat := by
  rw [cutS_len, sIx_nat' h0, HT.sIx_none]
  omega
theorem cut_two (z : Str) (x : Int) (h0 : 0 ≤ x) (h1 : x ≤ z.length) : (cutS z none (some x)).length + (cutS z (some x) none).length = z.length := by
  rw [cutS_len, cutS_len, sIx_nat' h0, sIx_nat' h0, HT.sIx_none, HT.sIx_none]
  omega
theorem join_S1 (cs : List Nat) : (Txt.join "" (cs.map S1)).cps.toList = cs := by
  rw [join0_list, List.map_map]
  induction cs with
  | nil => rfl
  | cons c l ih =>
    rw [List.map_cons, List.flatten_cons, ih]
    rfl
theorem sum_S1 (cs : List Nat) : ((cs.map S1).map (·.length)).sum = cs.length := by
  rw [List.map_map]
  induction cs with
  | nil => rfl
  | cons c l ih =>
    rw [List.map_cons, List.sum_cons, ih]
    show 1 + l.length = l.length + 1
    omega
theorem join_fits {cs : List Nat} (h : cs.length ≤ 100000) : (((cs.map S1).map (·.length)).sum + (cs.map S1).length * (("" : Str)).length) ≤ 16777216 := by
  rw [sum_S1]
  have e2 : (("" : Str)).length = 0 := rfl
  rw [e2]
  omega
theorem join_len (cs : List Nat) : (Txt.join "" (cs.map S1)).length = cs.length := by
  show (Txt.join "" (cs.map S1)).cps.size = _
  rw [← Array.length_toList, join_S1]
theorem twice_cut {L : Str} {a x : Int} (a0 : 0 ≤ a) (a1 : a < L.length) (x0 : 0 ≤ x) (x1 : x < L.length) : 1 ≤ (cutS (L ++ L) (some a) (some (a + 1 + x))).length ∧ (cutS (L ++ L) (some a) (some (a + 1 + x))).length ≤ 2 * L.length ∧ ∀ c ∈ (cutS (L ++ L) (some a) (some (a + 1 + x))).cps.toList, c ∈ L.cps.toList := by
  have e : (L ++ L).length = L.length + L.length := len_app ..
  refine ⟨?_, ?_, fun c hc => ?_⟩
  · rw [cutS_len, sIx_nat' a0, sIx_nat' (by omega), e]
    omega
  · rw [cutS_len, sIx_nat' a0, sIx_nat' (by omega), e]
    omega
  · have := cut_sub hc
    rw [list_app, List.mem_append] at this
    exact this.elim id id
theorem rep_len {α : Type} (n : Nat) (l : List α) : ((List.replicate n l).flatten).length = n * l.length := by
  induction n with
  | zero => simp
  | succ n ih =>
    rw [List.replicate_succ, List.flatten_cons, List.length_append, ih, Nat.add_mul]
    omega
theorem rep_mem {α : Type} {n : Nat} {l : List α} {x : α} (h : x ∈ (List.replicate n l).flatten) : x ∈ l := by
  obtain ⟨m, hm, hx⟩ := List.mem_flatten.mp h
  rw [(List.mem_replicate.mp hm).2] at hx
  exact hx
theorem mul_len (z : Str) {n : Int} (h0 : 0 ≤ n) : (Txt.mul z n).length = n.toNat * z.length := by
  show (Txt.mul z n).cps.size = _
  rw [← Array.length_toList, mul_list z n h0, rep_len, Array.length_toList]
  rfl
theorem mul_mem {z : Str} {n : Int} {x : Nat} (h0 : 0 ≤ n) (h : x ∈ (Txt.mul z n).cps.toList) : x ∈ z.cps.toList := by
  rw [mul_list z n h0] at h
  exact rep_mem h
def signs1 : Str := " !\"#$\n&'()*+,-./0123456789:;<=>?@ABCDEFGHIJKLMNOPQRSTUVWXYZ[\\]^_`abcdefghijklmnopqrstuvwxyz{|}~"
def signs2 : Str := " !\"#$&'()*+,-./0123456789:;<=>?@ABCDEFGHIJKLMNOPQRSTUVWXYZ[\\]^_`abcdefghijklmnopqrstuvwxyz{|}~\n"
structure TextOk (z : Str) : Prop where
  len : z.length ≤ 1000
  all : ∀ c ∈ z.cps.toList, c ∈ signs2.cps.toList ∨ c = 9
def firstBad : List Nat → Nat → Option Int
  | [], _ => none
  | c :: r, i => if c ∈ signs1.cps.toList then firstBad r (i + 1) else some i
def judge (z : Str) : Option Int := if 200 < z.length then some (-1) else firstBad z.cps.toList 0
def JudgedBy (H : Hp) (v : V) (r : Option Int) : Prop := (∃ z, v = .str z ∧ z.length ≤ 100000 ∧ r = judge z) ∨ (∃ t, tyv H v = some t ∧ kitB t "str" = some false ∧ r = some (-1))
def spCT (K : PySem.W.Frag) : Sp := fun vs H Q E => ∃ (v : V) (r : Option Int), vs = [v] ∧ JudgedBy H v r ∧ (r = none → ∀ H', Same H H' → Q .non H') ∧
  (∀ i, r = some i → ∀ d H', Same H H' → H d = none → H' d = some (.xd [("place", .int i)]) → E (.ref (He.ga K "BadText")) (some d) H')
theorem signs_sub : ∀ c ∈ signs2.cps.toList, c ∈ signs1.cps.toList := by decide +kernel
theorem nine_out : 9 ∉ signs1.cps.toList := by decide +kernel
theorem at1 (z : Str) (c i : Nat) : StrLaws.At z (S1 c) z.length i ↔ z.cps.toList[i]? = some c := by
  have e := TL.at_iff (x := z) (y := S1 c) (by intro h; cases h) i
  rw [e]
  show ((((z.cps.toList).drop i).take 1) == [c]) = true ↔ _
  rw [beq_iff_eq]
  cases h : z.cps.toList.drop i with
  | nil =>
    have hl : z.cps.toList.length ≤ i := List.drop_eq_nil_iff.mp h
    rw [List.getElem?_eq_none hl]
    simp
  | cons d r =>
    have h0 : z.cps.toList[i]? = some d := by
      rw [← Nat.add_zero i, ← List.getElem?_drop, h]
      rfl
    rw [h0]
    simp
theorem firstBad_none : ∀ (l : List Nat) (k : Nat), (∀ c ∈ l, c ∈ signs1.cps.toList) → firstBad l k = none
  | [], _, _ => rfl
  | c :: r, k, h => by
    show (if c ∈ signs1.cps.toList then firstBad r (k + 1) else some (k : Int)) = none
    rw [if_pos (h c (List.mem_cons_self ..))]
    exact firstBad_none r (k + 1) fun x hx => h x (List.mem_cons_of_mem _ hx)
theorem firstBad_at : ∀ (l : List Nat) (k i : Nat), l[i]? = some 9 → (∀ j, j < i → ∀ c, l[j]? = some c → c ∈ signs1.cps.toList) → firstBad l k = some ((k + i : Nat) : Int)
  | [], _, _, h, _ => by simp at h
  | c :: r, k, 0, h, _ => by
    have e : c = 9 := by simpa using h
    show (if c ∈ signs1.cps.toList then firstBad r (k + 1) else some (k : Int)) = _
    rw [if_neg (by rw [e]; exact nine_out)]
    simp
  | c :: r, k, i + 1, h, hb => by
    show (if c ∈ signs1.cps.toList then firstBad r (k + 1) else some (k : Int)) = _
    rw [if_pos (hb 0 (by omega) c (by simp)), firstBad_at r (k + 1) i (by simpa using h) (fun j hj x hx => hb (j + 1) (by omega) x (by simpa using hx))]
    congr 1
    omega
theorem no_tab {z : Str} (h : ∀ c ∈ z.cps.toList, c ∈ signs2.cps.toList ∨ c = 9) (h9 : ¬ 9 ∈ z.cps.toList) : none = firstBad z.cps.toList 0 := by
  refine (firstBad_none _ _ fun c hc => ?_).symm
  rcases h c hc with g | g
  · exact signs_sub c g
  · exact absurd (g ▸ hc) h9
theorem tab_found {z : Str} (h : ∀ c ∈ z.cps.toList, c ∈ signs2.cps.toList ∨ c = 9) (h9 : 9 ∈ z.cps.toList) : some (Txt.find z "\t") = firstBad z.cps.toList 0 := by
  have e : (("\t" : Str)) = S1 9 := rfl
  rw [e]
  rcases PyProof.Rows.find_whole z (S1 9) with ⟨_, hn⟩ | ⟨i, hf, ha, hb⟩
  · obtain ⟨i, hi⟩ := List.mem_iff_getElem?.mp h9
    exact absurd ((at1 z 9 i).mpr hi) (hn i)
  · rw [hf, firstBad_at _ 0 i ((at1 z 9 i).mp ha) (fun j hj c hc => ?_)]
    · simp
    · rcases h c (List.mem_of_getElem? hc) with g | g
      · exact signs_sub c g
      · exact absurd ((at1 z 9 j).mpr (g ▸ hc)) (hb j hj)
theorem textCut {z : Str} {lo hi : Option Int} (h : TextOk z) : TextOk (cutS z lo hi) := by
  refine ⟨?_, fun c hc => h.all c (cut_sub hc)⟩
  rw [cutS_len]
  have := h.len
  omega
theorem fine_ok : isF (.str "fine") = true := by decide +kernel
theorem ref_ok : isF (.str "refused") = true := by decide +kernel
theorem codeL_len (c : Nat) : (codeL c).length ≤ 3 := by
  unfold codeL
  split
  · show 1 ≤ 3
    decide
  · split
    · show 2 ≤ 3
      decide
    · split
      · show 2 ≤ 3
        decide
      · show 3 ≤ 3
        decide
theorem flat_len : ∀ l : List Nat, ((l.map codeL).flatten).length ≤ 3 * l.length
  | [] => Nat.le_refl _
  | c :: l => by
    rw [List.map_cons, List.flatten_cons, List.length_append, List.length_cons]
    have := flat_len l
    have := codeL_len c
    omega
theorem tyv_same {H H' : Hp} {v : V} {t : String} (s : Same H H') (h : tyv H v = some t) : tyv H' v = some t := by
  cases v with
  | ref a =>
    unfold tyv at h ⊢
    dsimp only at h ⊢
    cases e : H a with
    | none => rw [e] at h; cases h
    | some o => rw [e] at h; rw [s a o e]; exact h
  | _ => exact h
theorem tyv_kp {b : Addr} {H H' : Hp} {v : V} {t : String} (B : Bag H b) (k : Kp b H H') (h : tyv H v = some t) : tyv H' v = some t := by
  cases v with
  | ref a =>
    by_cases e : a = b
    · obtain ⟨kvs, h1⟩ := B.some
      obtain ⟨kvs', h2⟩ := k.bag.some
      unfold tyv at h ⊢
      dsimp only at h ⊢
      rw [e, h1] at h
      rw [e, h2]
      exact h
    · unfold tyv at h ⊢
      dsimp only at h ⊢
      cases q : H a with
      | none => rw [q] at h; cases h
      | some o => rw [q] at h; rw [k.keep a o e q]; exact h
  | _ => exact h
def clist (z : Str) : List Int := (z.cps.toList.map codeL).flatten
def spPlain : Sp := fun vs H Q _ => ∃ z : Str, vs = [.str z] ∧ z.length ≤ 1000 ∧ ∀ (p : Addr) (H' : Hp), Same H H' → H p = none → H' p = some (.lst (mi (clist z))) → Q (.ref p) H'
theorem str_ext {a b : Str} (h : a.cps.toList = b.cps.toList) : a = b := by
  cases a with
  | mk x =>
    cases b with
    | mk y =>
      have e : x = y := Array.toList_inj.mp h
      rw [e]
/-- all but the object at x is kept -/
def Kx (x : Addr) (H H' : Hp) : Prop := ∀ a o, a ≠ x → H a = some o → H' a = some o
theorem Kx.trans {x : Addr} {H H1 H2 : Hp} (a : Kx x H H1) (b : Kx x H1 H2) : Kx x H H2 := fun c o n h => b c o n (a c o n h)
theorem Kx.of {x : Addr} {H H1 : Hp} (s : Same H H1) : Kx x H H1 := fun a o _ h => s a o h
theorem Rd.kx {x : Addr} {H H' : Hp} {C dx : Addr} {fs : List (Str × V)} {a : Addr} {u : HO} (k : Kx x H H') (hx : H x = some (.ins C dx fs)) (hu : ∀ C dx fs, u ≠ .ins C dx fs) (h : L2.Rd H a u) : L2.Rd H' a u := by
  rcases h with h | ⟨o, h⟩
  · exact .inl (k a _ (ne_of h hx fun e => hu _ _ _ e) h)
  · exact .inr ⟨o, k a _ (ne_of h hx fun e => by cases e) h⟩
def SqA (K : PySem.W.Frag) (H : Hp) (a : Addr) (xs : List V) : Prop := SqL K H a xs ∨ SqT K H a xs
theorem SqA.same {K : PySem.W.Frag} {H H' : Hp} {a : Addr} {xs : List V} (h : SqA K H a xs) (s : Same H H') : SqA K H' a xs := by
  rcases h with ((h | ⟨o, h⟩) | h) | ((h | ⟨o, h⟩) | h)
  · exact .inl (.inl (.inl (s _ _ h)))
  · exact .inl (.inl (.inr ⟨o, s _ _ h⟩))
  · exact .inl (.inr h)
  · exact .inr (.inl (.inl (s _ _ h)))
  · exact .inr (.inl (.inr ⟨o, s _ _ h⟩))
  · exact .inr (.inr h)
theorem forA {K : PySem.W.Frag} {x : Addr} {C dx : Addr} {fs : List (Str × V)} {a : Addr} {xs : List V} {j : Nat} {g : TG} {tb : TS} {D : Ends} {σ : L2.St} {Hb H : Hp} (hx : Hb x = some (.ins C dx fs)) (hv : σ[j]? = some (some (.ref a))) (hq : SqA K Hb a xs) (Pv : Nat → L2.St → Hp → Prop) (h0 : Pv 0 σ H) (hS : ∀ i σ H', Pv i σ H' → Kx x Hb H')
    (hs : ∀ i y σ H, xs[i]? = some y → Pv i σ H → g y σ H fun σ2 H2 => tb { D with nx := Pv (i + 1), ct := Pv (i + 1), bk := D.nx } σ2 H2) (hd : ∀ σ H, Pv xs.length σ H → D.nx σ H) : tFor (iQ K (tVar j)) g tb D σ H := by
  rcases hq with hq | hq
  · have kL : ∀ i σ H', Pv i σ H' → SqL K H' a xs := fun i σ H' p => by
      rcases hq with hq | hq
      · exact .inl (Rd.kx (hS i σ H' p) hx (fun _ _ _ e => by cases e) hq)
      · exact .inr hq
    exact .inl ⟨_, hv, a, rfl, ⟨_, kL _ _ _ h0⟩, for_list (K := K) (a := a) (xs := xs) Pv h0 (fun i σ H' _ p => kL i σ H' p) hs hd⟩
  · have kT : ∀ i σ H', Pv i σ H' → SqT K H' a xs := fun i σ H' p => by
      rcases hq with hq | hq
      · exact .inl (Rd.kx (hS i σ H' p) hx (fun _ _ _ e => by cases e) hq)
      · exact .inr hq
    exact .inr ⟨_, hv, a, rfl, ⟨_, kT _ _ _ h0⟩, for_tup (K := K) (a := a) (xs := xs) Pv h0 (fun i σ H' _ p => kT i σ H' p) hs hd⟩
theorem Kx.free {x d : Addr} {H H' : Hp} {o : HO} (k : Kx x H H') (hx : H' x = some o) (h : H' d = none) : H d = none := by
  cases q : H d with
  | none => rfl
  | some u =>
    by_cases e : d = x
    · rw [e, hx] at h
      cases h
    · rw [k d u e q] at h
      cases h
theorem tyv_kx {x : Addr} {H H' : Hp} {C dx : Addr} {fs : List (Str × V)} {v : V} {t : String} (k : Kx x H H') (hx : H x = some (.ins C dx fs)) (h : tyv H v = some t) : tyv H' v = some t := by
  cases v with
  | ref a =>
    by_cases e : a = x
    · unfold tyv at h
      dsimp only at h
      rw [e, hx] at h
      cases h
    · unfold tyv at h ⊢
      dsimp only at h ⊢
      cases q : H a with
      | none => rw [q] at h; cases h
      | some o => rw [q] at h; rw [k a o e q]; exact h
  | _ => exact h
theorem nd_len : ∀ {a b : List Str}, a.Nodup → (∀ z ∈ a, z ∈ b) → a.length ≤ b.length
  | [], _, _, _ => Nat.zero_le _
  | x :: a, b, nd, h => by
    have hx := h x List.mem_cons_self
    have := nd_len (a := a) (b := b.erase x) (List.nodup_cons.mp nd).2 fun z hz => (List.mem_erase_of_ne (fun (e : z = x) => (List.nodup_cons.mp nd).1 (e ▸ hz))).mpr (h z (List.mem_cons_of_mem _ hz))
    rw [List.length_erase_of_mem hx] at this
    have : 0 < b.length := List.length_pos_of_mem hx
    rw [List.length_cons]
    omega
/-- the different ones, ascending -/
def DistOf (l ys : List Str) : Prop := sortedS ys = true ∧ ys.Nodup ∧ ∀ f, f ∈ ys ↔ f ∈ l
def spDist : Sp := fun vs H Q _ => ∃ (p : Addr) (l : List Str), vs = [.ref p] ∧ H p = some (.lst (ms l)) ∧ l.length ≤ 60000 ∧ ∀ q ys H', Same H H' → DistOf l ys → H q = none → H' q = some (.lst (ms ys)) → Q (.ref q) H'
def letS : Str := "abcdefghijklmnopqrstuvwxyz"
abbrev isL (c : Nat) : Bool := decide (c ∈ letS.cps.toList)
/-- a word of a lot -/
def isSW (z : Str) : Bool := decide (3 ≤ z.length) && decide (z.length ≤ 20) && z.cps.toList.all isL
def BadS (H : Hp) (w : V) : Prop := (∃ z, w = .str z ∧ z.length ≤ 1000 ∧ isSW z = false) ∨ ∃ t, tyv H w = some t ∧ kitB t "str" = some false
theorem BadS.same {H H' : Hp} {w : V} (s : Same H H') (h : BadS H w) : BadS H' w := by
  rcases h with h | ⟨t, h1, h2⟩
  · exact .inl h
  · exact .inr ⟨t, tyv_same s h1, h2⟩
theorem BadS.kp {b : Addr} {H H' : Hp} {w : V} (B : Bag H b) (k : Kp b H H') (h : BadS H w) : BadS H' w := by
  rcases h with h | ⟨t, h1, h2⟩
  · exact .inl h
  · exact .inr ⟨t, tyv_kp B k h1, h2⟩
theorem BadS.kx {x : Addr} {H H' : Hp} {C dx : Addr} {fs : List (Str × V)} {v : V} (k : Kx x H H') (hx : H x = some (.ins C dx fs)) (h : BadS H v) : BadS H' v := by
  rcases h with h | ⟨t, h1, h2⟩
  · exact .inl h
  · exact .inr ⟨t, tyv_kx k hx h1, h2⟩
def spShort : Sp := fun vs H Q _ => ∃ v : V, vs = [v] ∧ ((∃ z, v = .str z ∧ z.length ≤ 1000 ∧ ∀ H', Same H H' → Q (.bl (isSW z)) H') ∨ ∃ t, tyv H v = some t ∧ kitB t "str" = some false ∧ Q (.bl false) H)
/-- the first thing that is no word of a lot -/
inductive FirstS (H : Hp) : List V → V → Prop where
  | here {v : V} {l : List V} (h : BadS H v) : FirstS H (v :: l) v
  | there {v : V} {z : Str} {l : List V} (h : isSW z = true) (r : FirstS H l v) : FirstS H (.str z :: l) v
theorem FirstS.same {H H' : Hp} (s : Same H H') : ∀ {l : List V} {w : V}, FirstS H l w → FirstS H' l w
  | _, _, .here h => .here (h.same s)
  | _, _, .there h r => .there h (r.same s)
theorem FirstS.kp {b : Addr} {H H' : Hp} (B : Bag H b) (k : Kp b H H') : ∀ {l : List V} {w : V}, FirstS H l w → FirstS H' l w
  | _, _, .here h => .here (h.kp B k)
  | _, _, .there h r => .there h (r.kp B k)
theorem FirstS.pre {H : Hp} {l : List V} {w : V} (h : FirstS H l w) : ∀ {zs : List Str}, (∀ z ∈ zs, isSW z = true) → FirstS H (ms zs ++ l) w
  | [], _ => h
  | z :: zs, hz => .there (hz z List.mem_cons_self) (h.pre fun y hy => hz y (List.mem_cons_of_mem _ hy))
theorem isSW_len {z : Str} (h : isSW z = true) : 3 ≤ z.length ∧ z.length ≤ 20 := by
  unfold isSW at h
  simp only [Bool.and_eq_true, decide_eq_true_eq] at h
  exact h.1
theorem bads_not {H : Hp} {z : Str} (h : BadS H (.str z)) (w : isSW z = true) : False := by
  rcases h with ⟨y, e, _, h⟩ | ⟨t, h1, h2⟩
  · cases e
    rw [w] at h
    cases h
  · rw [tyv_str] at h1
    cases h1
    rw [kb_str_str] at h2
    cases h2
theorem FirstS.at {H : Hp} {w : V} : ∀ {l : List V}, FirstS H l w → ∀ {i : Nat} {zs : List Str} {y : V}, l.take i = ms zs → (∀ z ∈ zs, isSW z = true) → l[i]? = some y → (∃ z, y = .str z ∧ isSW z = true) ∨ (y = w ∧ BadS H y)
  | _, .here h, 0, _, y, _, _, hy => by
    have e : _ = y := Option.some.inj hy
    subst e
    exact .inr ⟨rfl, h⟩
  | _, .here (v := v) (l := l) h, i + 1, zs, y, ht, hw, _ => by
    rw [List.take_succ_cons] at ht
    cases zs with
    | nil => cases ht
    | cons z zs =>
      have e : v = .str z := (List.cons.inj ht).1
      subst e
      exact (bads_not h (hw z List.mem_cons_self)).elim
  | _, .there (z := z) h r, 0, _, y, _, _, hy => by
    have e : _ = y := Option.some.inj hy
    subst e
    exact .inl ⟨z, rfl, h⟩
  | _, .there (l := l) h r, i + 1, zs, y, ht, hw, hy => by
    rw [List.take_succ_cons] at ht
    cases zs with
    | nil => cases ht
    | cons z zs => exact FirstS.at r (List.cons.inj ht).2 (fun z hz => hw z (List.mem_cons_of_mem _ hz)) (by simpa using hy)
theorem FirstS.no {H : Hp} {w : V} : ∀ {l : List V}, FirstS H l w → ∀ {zs : List Str}, l = ms zs → (∀ z ∈ zs, isSW z = true) → False
  | _, .here h, zs, ht, hw => by
    cases zs with
    | nil => cases ht
    | cons z zs =>
      have e := (List.cons.inj ht).1
      subst e
      exact bads_not h (hw z List.mem_cons_self)
  | _, .there h r, zs, ht, hw => by
    cases zs with
    | nil => cases ht
    | cons z zs => exact FirstS.no r (List.cons.inj ht).2 fun z hz => hw z (List.mem_cons_of_mem _ hz)
/-- a text of these signs -/
abbrev mkS (l : List Nat) : Str := ⟨l.toArray⟩
def runS (run : List Nat) : List Str := if run = [] then [] else [mkS run]
/-- the pieces of the rest, a run of letters being open -/
def pg : List Nat → List Nat → List Str
  | run, [] => runS run
  | run, c :: l => if isL c then pg (run ++ [c]) l else runS run ++ S1 c :: pg [] l
theorem pg_let {c : Nat} {l run : List Nat} (h : isL c = true) : pg run (c :: l) = pg (run ++ [c]) l := by
  rw [pg, if_pos h]
theorem pg_non {c : Nat} {l run : List Nat} (h : isL c = false) : pg run (c :: l) = runS run ++ S1 c :: pg [] l := by
  rw [pg, if_neg (by rw [h]; decide)]
theorem mkS_app (a b : List Nat) : mkS a ++ mkS b = mkS (a ++ b) := by
  apply str_ext
  rw [list_app]
theorem mkS_len (a : List Nat) : (mkS a).length = a.length := List.size_toArray
def pieces (z : Str) : List Str := pg [] z.cps.toList
theorem runS_sum (run : List Nat) : ((runS run).map (·.length)).sum = run.length := by
  unfold runS
  split
  · rename_i h
    rw [h]
    rfl
  · show run.toArray.size + 0 = _
    simp
theorem runS_pos {run : List Nat} {p : Str} (h : p ∈ runS run) : 1 ≤ p.length := by
  unfold runS at h
  split at h
  · cases h
  · rename_i hr
    rw [List.mem_singleton.mp h]
    show 1 ≤ run.toArray.size
    have := List.length_pos_iff.mpr hr
    rw [List.size_toArray]
    exact this
theorem pg_sum : ∀ (l run : List Nat), ((pg run l).map (·.length)).sum = run.length + l.length
  | [], run => by
    unfold pg
    rw [runS_sum]
    rfl
  | c :: l, run => by
    unfold pg
    split
    · rw [pg_sum l, List.length_append, List.length_cons, List.length_cons, List.length_nil]
      omega
    · rw [List.map_append, List.sum_append, runS_sum, List.map_cons, List.sum_cons, pg_sum l, List.length_nil, List.length_cons]
      show run.length + (1 + (0 + l.length)) = _
      omega
theorem pg_pos : ∀ (l run : List Nat), ∀ p ∈ pg run l, 1 ≤ p.length
  | [], run => fun p hp => runS_pos hp
  | c :: l, run => fun p hp => by
    unfold pg at hp
    split at hp
    · exact pg_pos l _ p hp
    · rcases List.mem_append.mp hp with hp | hp
      · exact runS_pos hp
      · rcases List.mem_cons.mp hp with rfl | hp
        · exact Nat.le_refl 1
        · exact pg_pos l _ p hp
theorem sum_mem {l : List Str} {p : Str} (h : p ∈ l) : p.length ≤ (l.map (·.length)).sum := by
  induction l with
  | nil => cases h
  | cons x l ih =>
    rw [List.map_cons, List.sum_cons]
    rcases List.mem_cons.mp h with rfl | h
    · omega
    · have := ih h
      omega
theorem pieces_sum (z : Str) : ((pieces z).map (·.length)).sum = z.length := by
  unfold pieces
  rw [pg_sum, List.length_nil, Nat.zero_add, Array.length_toList]
  rfl
theorem pieces_len {z p : Str} (h : p ∈ pieces z) : 1 ≤ p.length ∧ p.length ≤ z.length := ⟨pg_pos _ _ p h, pieces_sum z ▸ sum_mem h⟩
theorem len_le_sum {l : List Str} (h : ∀ p ∈ l, 1 ≤ p.length) : l.length ≤ (l.map (·.length)).sum := by
  induction l with
  | nil => exact Nat.le_refl _
  | cons x l ih =>
    rw [List.map_cons, List.sum_cons, List.length_cons]
    have := ih fun y hy => h y (List.mem_cons_of_mem _ hy)
    have := h x List.mem_cons_self
    omega
theorem pieces_many (z : Str) : (pieces z).length ≤ z.length := pieces_sum z ▸ len_le_sum (pg_pos _ _)
def spPieces : Sp := fun vs H Q _ => ∃ z : Str, vs = [.str z] ∧ z.length ≤ 1000 ∧ ∀ p H', Same H H' → H p = none → H' p = some (.lst (ms (pieces z))) → Q (.ref p) H'
/-- the half bytes of a piece -/
def half1 (ws : List Str) (p : Str) : List Int := if p ∈ ws then [14, (ws.idxOf p : Nat)] else clist p
def half (ws : List Str) (z : Str) : List Int := ((pieces z).map (half1 ws)).flatten ++ [15, 0, 0]
theorem clist_len (z : Str) : (clist z).length ≤ 3 * z.length := by
  have := flat_len z.cps.toList
  rw [Array.length_toList] at this
  exact this
theorem half1_len (ws : List Str) {p : Str} (h : 1 ≤ p.length) : (half1 ws p).length ≤ 3 * p.length := by
  unfold half1
  split
  · show 2 ≤ 3 * p.length
    omega
  · exact clist_len p
theorem halves_len (ws : List Str) : ∀ {l : List Str}, (∀ p ∈ l, 1 ≤ p.length) → ((l.map (half1 ws)).flatten).length ≤ 3 * (l.map (·.length)).sum
  | [], _ => Nat.le_refl _
  | p :: l, h => by
    rw [List.map_cons, List.flatten_cons, List.length_append, List.map_cons, List.sum_cons]
    have := halves_len ws (l := l) fun q hq => h q (List.mem_cons_of_mem _ hq)
    have := half1_len ws (h p List.mem_cons_self)
    omega
theorem half_len (ws : List Str) (z : Str) : (half ws z).length ≤ 3 * z.length + 3 := by
  unfold half
  rw [List.length_append]
  have := halves_len ws (l := pieces z) (pg_pos _ _)
  rw [pieces_sum] at this
  show _ + 3 ≤ _
  omega
def pad2 (l : List Int) : List Int := if l.length % 2 = 1 then l ++ [0] else l
def by2 (l : List Int) : List Int := (List.range ((l.length + 1) / 2)).map fun k => (pad2 l).getD (2 * k) 0 * 16 + (pad2 l).getD (2 * k + 1) 0
theorem pad2_len (l : List Int) : (pad2 l).length = 2 * ((l.length + 1) / 2) := by
  unfold pad2
  split
  · rw [List.length_append]
    show l.length + 1 = _
    omega
  · omega
theorem by2_len (l : List Int) : (by2 l).length = (l.length + 1) / 2 := by
  unfold by2
  rw [List.length_map, List.length_range]
theorem range_succ' {α : Type} (f : Nat → α) (i : Nat) : (List.range (i + 1)).map f = (List.range i).map f ++ [f i] := by
  rw [List.range_succ, List.map_append]
  rfl
def spPairs : Sp := fun vs H Q _ => ∃ (p : Addr) (l : List Int), vs = [.ref p] ∧ H p = some (.lst (mi l)) ∧ l.length ≤ 10000 ∧ ∀ q H', Same H H' → H q = none → H' q = some (.tup (mi (by2 l))) → Q (.ref q) H'
structure LotOk (ws : List Str) : Prop where
  so : sortedS ws = true
  nd : ws.Nodup
  ok : ∀ z ∈ ws, isSW z = true
  lt : ws.length ≤ 16
def Lot (K : PySem.W.Frag) (H : Hp) (x : Addr) (ws : List Str) : Prop := LotOk ws ∧ ∃ dx p, H x = some (.ins (He.ga K "Lot") dx [("words", .ref p)]) ∧ FT H p (ms ws)
theorem Lot.same {K : PySem.W.Frag} {H H' : Hp} {x : Addr} {ws : List Str} (h : Lot K H x ws) (s : Same H H') : Lot K H' x ws := by
  obtain ⟨o, dx, p, h1, h2⟩ := h
  exact ⟨o, dx, p, s _ _ h1, h2.same s⟩
theorem Lot.kp {K : PySem.W.Frag} {b : Addr} {H H' : Hp} {x : Addr} {ws : List Str} (h : Lot K H x ws) (B : Bag H b) (k : Kp b H H') : Lot K H' x ws := by
  obtain ⟨o, dx, p, h1, h2⟩ := h
  exact ⟨o, dx, p, k.ins B h1, h2.kp B k⟩
theorem Lot.ins {K : PySem.W.Frag} {H : Hp} {x : Addr} {ws : List Str} (h : Lot K H x ws) : ∃ dx fl, H x = some (.ins (He.ga K "Lot") dx fl) := by
  obtain ⟨o, dx, p, h1, _⟩ := h
  exact ⟨dx, _, h1⟩
theorem Lot.put {K : PySem.W.Frag} {H : Hp} {x a : Addr} {ws : List Str} {xs ys : List V} (h : Lot K H x ws) (ha : H a = some (.lst xs)) : Lot K (upd H a (.lst ys)) x ws := by
  obtain ⟨o, dx, p, h1, ⟨ob, h2, d2⟩⟩ := h
  refine ⟨o, dx, p, ?_, ⟨ob, ?_, d2⟩⟩
  · rw [upd_ne (ne_of h1 ha (by intro z; cases z))]
    exact h1
  · rw [upd_ne (ne_of h2 ha (by intro z; cases z))]
    exact h2
theorem let_lt : ∀ c ∈ letS.cps.toList, c < 200 := by decide +kernel
theorem isSW_mem {z : Str} (h : isSW z = true) : ∀ c ∈ z.cps.toList, c ∈ letS.cps.toList := fun c hc => by
  unfold isSW at h
  exact of_decide_eq_true (List.all_eq_true.mp (Bool.and_eq_true_iff.mp h).2 c hc)
theorem isSW_F {z : Str} (h : isSW z = true) : isF (.str z) = true := by
  show PyData.strOk z = true
  unfold PyData.strOk
  rw [← Array.all_toList, List.all_eq_true]
  intro x hx
  exact decide_eq_true (Nat.lt_trans (let_lt x (isSW_mem h x hx)) (by decide))
theorem isF_sw {l : List Str} (h : ∀ z ∈ l, isSW z = true) : (ms l).all isF = true := by
  rw [List.all_eq_true]
  intro v hv
  obtain ⟨z, hz, rfl⟩ := List.mem_map.mp hv
  exact isSW_F (h z hz)
/-- Lot(words) -/
def spLot (K : PySem.W.Frag) : Sp := fun vs H Q E => ∃ (x dx pw : Addr) (l : List V), vs = [.ref x, .ref pw] ∧ H x = some (.ins (He.ga K "Lot") dx []) ∧ SqA K H pw l ∧ l.length ≤ 500 ∧
  ((∃ w, FirstS H l w ∧ ∀ d H', Kx x H H' → H d = none → H' d = some (.xd [("word", w)]) → E (.ref (He.ga K "BadLot")) (some d) H') ∨
   (∃ zs, l = ms zs ∧ (∀ z ∈ zs, isSW z = true) ∧ ∀ ws, DistOf zs ws → (ws.length ≤ 16 → ∀ H', Kx x H H' → Lot K H' x ws → Q .non H') ∧
     (16 < ws.length → ∀ d H', Kx x H H' → H d = none → H' d = some (.xd [("kind", .str "word")]) → E (.ref (He.ga K "TooMany")) (some d) H')))
def spTGet (K : PySem.W.Frag) : Sp := fun vs H Q _ => ∃ (x : Addr) (i : Int) (ws : List Str), vs = [.ref x, .int i] ∧ Lot K H x ws ∧ ∃ z, atI (ms ws) i = some (.str z) ∧ Q (.str z) H
def spTIter (K : PySem.W.Frag) : Sp := fun vs H Q _ => ∃ (x : Addr) (ws : List Str), vs = [.ref x] ∧ Lot K H x ws ∧ ∀ it p, FT H p (ms ws) → H it = none → Q (.ref it) (upd H it (TItO p it 0))
def spTLen (K : PySem.W.Frag) : Sp := fun vs H Q _ => ∃ (x : Addr) (ws : List Str), vs = [.ref x] ∧ Lot K H x ws ∧ Q (.int (ws.length : Nat)) H
def spTIn (K : PySem.W.Frag) : Sp := fun vs H Q _ => ∃ (x : Addr) (z : Str) (ws : List Str), vs = [.ref x, .str z] ∧ Lot K H x ws ∧ Q (.bl (decide (z ∈ ws))) H
def spTEq (K : PySem.W.Frag) : Sp := fun vs H Q _ => ∃ (x y : Addr) (ws us : List Str), vs = [.ref x, .ref y] ∧ Lot K H x ws ∧ Lot K H y us ∧ Q (.bl (decide (ws = us))) H
def spTAnd (K : PySem.W.Frag) (p : Str → List Str → Bool) : Sp := fun vs H Q _ => ∃ (x y : Addr) (ws us : List Str), vs = [.ref x, .ref y] ∧ Lot K H x ws ∧ Lot K H y us ∧ ∀ z H', Same H H' → Lot K H' z (ws.filter fun w => p w us) → Q (.ref z) H'
def spTOr (K : PySem.W.Frag) : Sp := fun vs H Q E => ∃ (x y : Addr) (ws us : List Str), vs = [.ref x, .ref y] ∧ Lot K H x ws ∧ Lot K H y us ∧ ∀ hs, DistOf (ws ++ us) hs → (hs.length ≤ 16 → ∀ z H', Same H H' → Lot K H' z hs → Q (.ref z) H') ∧
  (16 < hs.length → ∀ d H', Same H H' → H d = none → H' d = some (.xd [("kind", .str "word")]) → E (.ref (He.ga K "TooMany")) (some d) H')
def spHalf (K : PySem.W.Frag) : Sp := fun vs H Q _ => ∃ (x : Addr) (z : Str) (ws : List Str), vs = [.ref x, .str z] ∧ Lot K H x ws ∧ z.length ≤ 1000 ∧ ∀ p H', Same H H' → H p = none → H' p = some (.lst (mi (half ws z))) → Q (.ref p) H'
def spWeight (K : PySem.W.Frag) : Sp := fun vs H Q E => ∃ (x : Addr) (v : V) (r : Option Int) (ws : List Str), vs = [.ref x, v] ∧ Lot K H x ws ∧ JudgedBy H v r ∧ (r = none → ∀ z, v = .str z → ∀ H', Same H H' → Q (.int ((half ws z).length : Nat)) H') ∧
  (∀ i, r = some i → ∀ d H', Same H H' → H d = none → H' d = some (.xd [("place", .int i)]) → E (.ref (He.ga K "BadText")) (some d) H')
def spTCall (K : PySem.W.Frag) : Sp := fun vs H Q E => ∃ (x : Addr) (v : V) (r : Option Int) (ws : List Str), vs = [.ref x, v] ∧ Lot K H x ws ∧ JudgedBy H v r ∧ (r = none → ∀ z, v = .str z → ∀ q H', Same H H' → H q = none → H' q = some (.tup (mi (by2 (half ws z)))) → Q (.ref q) H') ∧
  (∀ i, r = some i → ∀ d H', Same H H' → H d = none → H' d = some (.xd [("place", .int i)]) → E (.ref (He.ga K "BadText")) (some d) H')
theorem mem_plus {L : List Str} {z f : Str} : f ∈ plus L z ↔ f ∈ L ∨ f = z := by
  unfold plus
  split
  · rename_i h
    exact ⟨.inl, fun k => k.elim id fun e => e ▸ h⟩
  · rw [List.mem_cons]
    exact or_comm
theorem nodup_plus {L : List Str} {z : Str} (h : L.Nodup) : (plus L z).Nodup := by
  unfold plus
  split
  · exact h
  · rename_i k
    exact List.nodup_cons.mpr ⟨k, h⟩
theorem len_plus (L : List Str) (z : Str) : (plus L z).length ≤ L.length + 1 := by
  unfold plus
  split
  · omega
  · exact Nat.le_refl _
theorem sum_take (l : List Str) (i : Nat) : ((l.take i).map (·.length)).sum ≤ (l.map (·.length)).sum := by
  have e : l.map (·.length) = (l.take i).map (·.length) ++ (l.drop i).map (·.length) := by rw [← List.map_append, List.take_append_drop]
  rw [e, List.sum_append]
  omega
theorem sorted_filter {ws : List Str} (h : sortedS ws = true) (nd : ws.Nodup) (p : Str → Bool) {ys : List Str} (d : DistOf (ws.filter p) ys) : ys = ws.filter p :=
  pw_uniq (sorted_pw d.1) ((sorted_pw h).filter _) ((List.perm_ext_iff_of_nodup d.2.1 (nd.filter _)).mpr d.2.2)
theorem mk_lot {K : PySem.W.Frag} {H1 : Hp} {pw : Addr} {zs : List Str} {Q : Addr → Hp → Prop} {E : XK} (hq : SqA K H1 pw (ms zs)) (hl : zs.length ≤ 500) (hw : ∀ z ∈ zs, isSW z = true)
    (q : ∀ ws, DistOf zs ws → (ws.length ≤ 16 → ∀ x H', Same H1 H' → Lot K H' x ws → Q x H') ∧ (16 < ws.length → ∀ d H', Same H1 H' → H1 d = none → H' d = some (.xd [("kind", .str "word")]) → E (.ref (He.ga K "TooMany")) (some d) H')) :
    ∀ (x dx : Addr), H1 x = none → H1 dx = none → dx ≠ x → spLot K [.ref x, .ref pw] (upd (upd H1 dx (.own x)) x (.ins (He.ga K "Lot") dx [])) (fun v H2 => v = .non ∧ Q x H2) E := by
  intro z dz nz ndz nez
  have sx : Same H1 (upd (upd H1 dz (.own z)) z (.ins (He.ga K "Lot") dz [])) := fun b o e => by
    rw [upd_ne (ne_of_none e nz), upd_ne (ne_of_none e ndz)]
    exact e
  have sk : ∀ {H2 : Hp}, Kx z (upd (upd H1 dz (.own z)) z (.ins (He.ga K "Lot") dz [])) H2 → Same H1 H2 := fun hk b o e => hk b o (ne_of_none e nz) (sx b o e)
  refine ⟨z, dz, pw, ms zs, rfl, upd_same, hq.same sx, by rw [List.length_map]; exact hl, .inr ⟨zs, rfl, hw, fun ws hd => ⟨fun h16 H2 hk hL => ⟨rfl, (q ws hd).1 h16 z H2 (sk hk) hL⟩, fun h16 d H2 hk nd ed => (q ws hd).2 h16 d H2 (sk hk) (sx.free nd) ed⟩⟩⟩
theorem LotOk.filter {ws : List Str} (o : LotOk ws) (p : Str → Bool) : (ws.filter p).length ≤ 16 ∧ ∀ z ∈ ws.filter p, isSW z = true := ⟨Nat.le_trans (List.length_filter_le _ _) o.lt, fun z hz => o.ok z (List.mem_filter.mp hz).1⟩
def spChoiceS : Sp := fun vs H Q _ => ∃ (b : Addr) (z : Str), vs = [.ref b, .str z] ∧ Bag H b ∧ 0 < z.length ∧ z.length ≤ 100000 ∧ ∀ (c : Nat) (H' : Hp), c ∈ z.cps.toList → Kp b H H' → Q (.str (S1 c)) H'
def spSigns : Sp := fun vs H Q _ => vs = [] ∧ Q (.str signs2) H
def spSign : Sp := fun vs H Q _ => ∃ b : Addr, vs = [.ref b] ∧ Bag H b ∧ ∀ (c : Nat) (H' : Hp), c ∈ signs2.cps.toList → Kp b H H' → Q (.str (S1 c)) H'
def spNumbers : Sp := fun vs H Q _ => ∃ (a d : Addr) (ns : List Int), vs = [.ref a, .ref d] ∧ H a = some (.tup (ns.map V.int)) ∧ H d = some (.lst (ns.map V.int)) ∧ ns.length ≤ 1000 ∧ ∀ H', Same H H' → Q (.bl true) H'
def spInteger : Sp := fun vs H Q _ => ∃ i : Int, vs = [.int i] ∧ Q (.bl true) H
def spWordB : Sp := fun vs H Q _ => ∃ b : Addr, vs = [.ref b] ∧ Bag H b ∧ ∀ (z : Str) (H' : Hp), isSW z = true → Kp b H H' → Q (.str z) H'
def spHalves : Sp := fun vs H Q _ => ∃ (p : Addr) (ws : List Str) (z : Str), vs = [.ref p, .str z] ∧ H p = some (.lst (ms ws)) ∧ z.length ≤ 1000 ∧ ∀ q H', Same H H' → H q = none → H' q = some (.lst (mi (half ws z))) → Q (.ref q) H'
def spBytes : Sp := fun vs H Q _ => ∃ (p : Addr) (l : List Int), vs = [.ref p] ∧ H p = some (.lst (mi l)) ∧ l.length ≤ 10000 ∧ ∀ q H', Same H H' → H q = none → H' q = some (.lst (mi (by2 l))) → Q (.ref q) H'
def spRowW : Sp := fun vs H Q _ => ∃ (b p : Addr) (l : List Str), vs = [.ref b, .ref p] ∧ Bag H b ∧ H p = some (.lst (ms l)) ∧ l.length ≤ 100 ∧ (∀ z ∈ l, isSW z = true) ∧ ∀ q ys H', Kp b H H' → H q = none → H' q = some (.lst (ms ys)) → ys.length ≤ 20 → (∀ z ∈ ys, isSW z = true) → Q (.ref q) H'
def spText : Sp := fun vs H Q _ => ∃ (b p : Addr) (l : List Str), vs = [.ref b, .ref p] ∧ Bag H b ∧ H p = some (.lst (ms l)) ∧ l.length ≤ 100 ∧ (∀ z ∈ l, isSW z = true) ∧ ∀ (z : Str) (H' : Hp), TextOk z → Kp b H H' → Q (.str z) H'
theorem isSW_of {z : Str} (h1 : 3 ≤ z.length) (h2 : z.length ≤ 20) (h : ∀ c ∈ z.cps.toList, c ∈ letS.cps.toList) : isSW z = true := by
  unfold isSW
  rw [decide_eq_true h1, decide_eq_true h2, List.all_eq_true.mpr fun c hc => decide_eq_true (h c hc)]
  rfl
def SgOk (z : Str) : Prop := ∀ c ∈ z.cps.toList, c ∈ signs2.cps.toList
theorem SgOk.app {a b : Str} (ha : SgOk a) (hb : SgOk b) : SgOk (a ++ b) := fun c hc => by
  rw [list_app, List.mem_append] at hc
  exact hc.elim (ha c) (hb c)
theorem let_sign : ∀ c ∈ letS.cps.toList, c ∈ signs2.cps.toList := by decide +kernel
def spTIterN (K : PySem.W.Frag) : Nat → Sp := fun n vs H Q _ => ∃ (x : Addr) (ws : List Str), vs = [.ref x] ∧ Lot K H x ws ∧ ∀ it p, FT H p (ms ws) → H it = none → n ≤ it → Q (.ref it) (upd H it (TItO p it 0))
/-- the first thing that is no text -/
inductive FirstT (H : Hp) : List V → Int → Prop where
  | here {v : V} {l : List V} {i : Int} (h : JudgedBy H v (some i)) : FirstT H (v :: l) i
  | there {z : Str} {l : List V} {i : Int} (h : judge z = none) (r : FirstT H l i) : FirstT H (.str z :: l) i
theorem JudgedBy.same {H H' : Hp} {v : V} {r : Option Int} (s : Same H H') (h : JudgedBy H v r) : JudgedBy H' v r := by
  rcases h with h | ⟨t, h1, h2⟩
  · exact .inl h
  · exact .inr ⟨t, tyv_same s h1, h2⟩
theorem FirstT.same {H H' : Hp} (s : Same H H') : ∀ {l : List V} {i : Int}, FirstT H l i → FirstT H' l i
  | _, _, .here h => .here (h.same s)
  | _, _, .there h r => .there h (r.same s)
theorem FirstT.pre {H : Hp} {l : List V} {i : Int} (h : FirstT H l i) : ∀ {zs : List Str}, (∀ z ∈ zs, judge z = none) → FirstT H (ms zs ++ l) i
  | [], _ => h
  | z :: zs, hz => .there (hz z List.mem_cons_self) (h.pre fun y hy => hz y (List.mem_cons_of_mem _ hy))
theorem judge_len {z : Str} (h : judge z = none) : z.length ≤ 200 := by
  unfold judge at h
  split at h
  · cases h
  · omega
/-- where the walk stands, the thing is a text or the first that is none -/
theorem FirstT.at {H : Hp} {r : Int} : ∀ {l : List V}, FirstT H l r → ∀ {i : Nat} {y : V}, l[i]? = some y → (∀ j, j < i → ∃ z, l[j]? = some (.str z) ∧ judge z = none) → (∃ z, y = .str z ∧ judge z = none) ∨ JudgedBy H y (some r)
  | _, .here h, 0, y, hy, _ => .inr (by rw [← Option.some.inj hy]; exact h)
  | _, .here h, i + 1, y, _, hj => by
    obtain ⟨z, e, g⟩ := hj 0 (Nat.succ_pos _)
    have e : _ = V.str z := Option.some.inj e
    subst e
    rcases h with ⟨z', ez, _, k⟩ | ⟨t, h1, h2, _⟩
    · cases ez
      rw [g] at k
      cases k
    · rw [tyv_str] at h1
      cases h1
      rw [kb_str_str] at h2
      cases h2
  | _, .there h _, 0, y, hy, _ => .inl ⟨_, (Option.some.inj hy).symm, h⟩
  | _, .there _ r, i + 1, y, hy, hj => FirstT.at r (i := i) (by simpa using hy) fun j k => by
    obtain ⟨z, e, g⟩ := hj (j + 1) (by omega)
    exact ⟨z, by simpa using e, g⟩
theorem FirstT.no {H : Hp} {r : Int} : ∀ {l : List V}, FirstT H l r → (∀ j, j < l.length → ∃ z, l[j]? = some (.str z) ∧ judge z = none) → False
  | _, .here h, hj => by
    obtain ⟨z, e, g⟩ := hj 0 (Nat.succ_pos _)
    have e : _ = V.str z := Option.some.inj e
    subst e
    rcases h with ⟨z', ez, _, k⟩ | ⟨t, h1, h2, _⟩
    · cases ez
      rw [g] at k
      cases k
    · rw [tyv_str] at h1
      cases h1
      rw [kb_str_str] at h2
      cases h2
  | _, .there h r, hj => FirstT.no r fun j k => by
    obtain ⟨z, e, g⟩ := hj (j + 1) (by simpa using k)
    exact ⟨z, by simpa using e, g⟩
def GoodT (zs : List Str) : Prop := ∀ z ∈ zs, judge z = none
def BadX (K : PySem.W.Frag) (H : Hp) (i : Int) (E : XK) : Prop := ∀ d H', Same H H' → H d = none → H' d = some (.xd [("place", .int i)]) → E (.ref (He.ga K "BadText")) (some d) H'
theorem BadX.same {K : PySem.W.Frag} {H H1 : Hp} {i : Int} {E : XK} (h : BadX K H i E) (s : Same H H1) : BadX K H1 i E := fun d H' s' nd => h d H' (s.trans s') (s.free nd)
/-- these things are texts, or i is the place of the first that is none -/
def spCTs (K : PySem.W.Frag) : Sp := fun vs H Q E => ∃ (p : Addr) (l : List V), vs = [.ref p] ∧ Sq H p l ∧ l.length ≤ 300 ∧
  ((∃ zs, l = ms zs ∧ GoodT zs ∧ ∀ H', Same H H' → Q .non H') ∨ ∃ i, FirstT H l i ∧ BadX K H i E)
/-- the first sign of a piece is a letter -/
def isR (z : Str) : Bool := isL (z.cps.toList.headD 0)
def runsOf (z : Str) : List Str := (pieces z).filter isR
def spRuns (K : PySem.W.Frag) : Sp := fun vs H Q E => ∃ (v : V) (r : Option Int), vs = [v] ∧ JudgedBy H v r ∧ (r = none → ∀ z, v = .str z → ∀ q H', Same H H' → H q = none → H' q = some (.tup (ms (runsOf z))) → Q (.ref q) H') ∧ (∀ i, r = some i → BadX K H i E)
/-- the runs that count -/
def words1 (z : Str) : List Str := (pieces z).filter isSW
def words (zs : List Str) : List Str := (zs.map words1).flatten
def tbl (L : List Str) (ys : List Str) : List (Key × V) := ys.map fun w => (.inr w, V.int (L.count w : Nat))
def spCounted (K : PySem.W.Frag) : Sp := fun vs H Q E => ∃ (p : Addr) (l : List V), vs = [.ref p] ∧ Sq H p l ∧ l.length ≤ 300 ∧
  ((∃ zs, l = ms zs ∧ GoodT zs ∧ ∀ q ys H', Same H H' → H q = none → DistOf (words zs) ys → H' q = some (.dK (tbl (words zs) ys)) → Q (.ref q) H') ∨ ∃ i, FirstT H l i ∧ BadX K H i E)
def tot (ws zs : List Str) : Int := ((zs.map fun z => ((half ws z).length : Int)).sum) + ((ws.map fun w => ((half [] w).length : Int)).sum)
def spTotal (K : PySem.W.Frag) : Sp := fun vs H Q E => ∃ (p x : Addr) (l : List V) (ws : List Str), vs = [.ref p, .ref x] ∧ Sq H p l ∧ l.length ≤ 300 ∧ Lot K H x ws ∧
  ((∃ zs, l = ms zs ∧ GoodT zs ∧ ∀ H', Same H H' → Q (.int (tot ws zs)) H') ∨ ∃ i, FirstT H l i ∧ BadX K H i E)
def spSaving (K : PySem.W.Frag) : Sp := fun vs H Q E => ∃ (p : Addr) (v : V) (l : List V), vs = [.ref p, v] ∧ Sq H p l ∧ l.length ≤ 300 ∧
  ((∃ zs w, l = ms zs ∧ GoodT zs ∧ v = .str w ∧ isSW w = true ∧ ∀ H', Same H H' → Q (.int (tot [] zs - tot [w] zs)) H') ∨
   (∃ zs, l = ms zs ∧ GoodT zs ∧ BadS H v ∧ ∀ d H', Same H H' → H d = none → H' d = some (.xd [("word", v)]) → E (.ref (He.ga K "BadLot")) (some d) H') ∨
   ∃ i, FirstT H l i ∧ BadX K H i E)
def spBest (K : PySem.W.Frag) : Sp := fun vs H Q E => ∃ (p : Addr) (l : List V) (i : Int), vs = [.ref p, .int 16] ∧ Sq H p l ∧ l.length ≤ 300 ∧ FirstT H l i ∧ BadX K H i E
theorem let1 : ∀ c ∈ letS.cps.toList, c ∈ signs1.cps.toList := by decide +kernel
theorem judge_sw {w : Str} (h : isSW w = true) : judge w = none := by
  have := isSW_len h
  unfold judge
  rw [if_neg (by omega)]
  exact firstBad_none _ _ fun c hc => let1 c (isSW_mem h c hc)
theorem GoodT.at {zs : List Str} (h : GoodT zs) {i : Nat} {y : V} (hy : (ms zs)[i]? = some y) : ∃ z, y = .str z ∧ z ∈ zs ∧ judge z = none := by
  obtain ⟨z, hz, rfl⟩ := List.mem_map.mp (List.mem_of_getElem? hy)
  exact ⟨z, rfl, hz, h z hz⟩
theorem flat_filter (f : Str → Bool) (l : List Str) : ((List.range (ms l).length).map fun i => if f (l.getD i "") = true then [V.str (l.getD i "")] else []).flatten = ms (l.filter f) := by
  have g : ∀ n, n ≤ l.length → ((List.range n).map fun i => if f (l.getD i "") = true then [V.str (l.getD i "")] else []).flatten = ms ((l.take n).filter f) := by
    intro n
    induction n with
    | zero => intro _; rfl
    | succ n ih =>
      intro hn
      have hn' : n < l.length := by omega
      have e : l.getD n "" = l[n] := by rw [List.getD_eq_getElem?_getD, List.getElem?_eq_getElem hn']; rfl
      rw [flat_succ, ih (by omega), e, List.take_add_one, List.getElem?_eq_getElem hn', List.filter_append]
      show _ ++ _ = ms (_ ++ List.filter f [l[n]])
      by_cases hf : f l[n] = true
      · rw [if_pos hf, List.filter_cons_of_pos hf]
        simp [ms]
      · rw [if_neg hf, List.filter_cons_of_neg hf]
        simp [ms]
  have := g l.length (Nat.le_refl _)
  rw [List.take_length] at this
  rw [List.length_map]
  exact this
theorem flat_map1 (f : Str → Int) (l : List Str) : ((List.range (ms l).length).map fun i => [V.int (f (l.getD i ""))]).flatten = mi (l.map f) := by
  have g : ∀ n, n ≤ l.length → ((List.range n).map fun i => [V.int (f (l.getD i ""))]).flatten = mi ((l.take n).map f) := by
    intro n
    induction n with
    | zero => intro _; rfl
    | succ n ih =>
      intro hn
      have hn' : n < l.length := by omega
      have e : l.getD n "" = l[n] := by rw [List.getD_eq_getElem?_getD, List.getElem?_eq_getElem hn']; rfl
      rw [flat_succ, ih (by omega), e, List.take_add_one, List.getElem?_eq_getElem hn', List.map_append, mi_app]
      rfl
  have := g l.length (Nat.le_refl _)
  rw [List.take_length] at this
  rw [List.length_map]
  exact this
theorem ms_get {l : List Str} {i : Nat} {y : V} (h : (ms l)[i]? = some y) : ∃ z, y = .str z ∧ z ∈ l ∧ l.getD i "" = z ∧ i < l.length ∧ l[i]? = some z := by
  have hi := (List.getElem?_eq_some_iff.mp h).1
  rw [List.length_map] at hi
  rw [List.getElem?_map, List.getElem?_eq_getElem hi] at h
  exact ⟨l[i], (Option.some.inj h).symm, List.getElem_mem hi, by rw [List.getD_eq_getElem?_getD, List.getElem?_eq_getElem hi]; rfl, hi, List.getElem?_eq_getElem hi⟩
theorem head_of {z : Str} (h : 1 ≤ z.length) : ∃ c, atI z.cps.toList 0 = some c ∧ isR z = decide (c ∈ letS.cps.toList) := by
  have e : z.cps.toList.length = z.length := Array.length_toList
  unfold isR
  cases hz : z.cps.toList with
  | nil => rw [hz] at e; exact absurd h (by rw [← e]; decide)
  | cons c r => exact ⟨c, atI_get (i := 0) rfl, rfl⟩
theorem if_len1 {b : Bool} {y : V} : (if b = true then [y] else []).length ≤ 1 := by
  cases b <;> simp
theorem valV_tbl (L : List Str) (w : Str) : ∀ ks, valV (tbl L ks) (.inr w) = if w ∈ ks then some (.int (L.count w : Nat)) else none
  | [] => rfl
  | k :: ks => by
    have ih := valV_tbl L w ks
    unfold valV at ih ⊢
    show (List.find? _ ((Sum.inr k, V.int (L.count k : Nat)) :: tbl L ks)).map _ = _
    by_cases e : k = w
    · subst e
      rw [List.find?_cons_of_pos (by simp), if_pos List.mem_cons_self]
      rfl
    · rw [List.find?_cons_of_neg (by simpa using e), ih]
      have e2 : ¬ w = k := fun h => e h.symm
      simp only [List.mem_cons, e2, false_or]
theorem getD_tbl {L ks : List Str} (hm : ∀ f, f ∈ ks ↔ f ∈ L) (w : Str) : (valV (tbl L ks) (.inr w)).getD (.int 0) = .int (L.count w : Nat) := by
  rw [valV_tbl]
  by_cases h : w ∈ ks
  · rw [if_pos h]
    rfl
  · rw [if_neg h, List.count_eq_zero_of_not_mem fun k => h ((hm w).mpr k)]
    rfl
theorem any_tbl (L : List Str) (w : Str) (ks : List Str) : ((tbl L ks).any fun kv => decide (kv.1 = .inr w)) = decide (w ∈ ks) := by
  unfold tbl
  rw [List.any_map]
  induction ks with
  | nil => rfl
  | cons k ks ih =>
    rw [List.any_cons, ih]
    by_cases e : k = w
    · subst e
      simp
    · have e2 : ¬ w = k := fun h => e h.symm
      simp [e, e2]
theorem put_new {L ks : List Str} {w : Str} {v : V} (h : w ∉ ks) : putK (tbl L ks) (.inr w) v = tbl L ks ++ [(.inr w, v)] := by
  unfold putK
  rw [any_tbl, decide_eq_false h, if_neg (by decide)]
theorem put_old {L ks : List Str} {w : Str} {v : V} (h : w ∈ ks) : putK (tbl L ks) (.inr w) v = ks.map fun k => if k = w then (.inr k, v) else (.inr k, V.int (L.count k : Nat)) := by
  unfold putK
  rw [any_tbl, decide_eq_true h, if_pos rfl]
  unfold tbl
  rw [List.map_map]
  refine List.map_congr_left fun k _ => ?_
  simp
/-- one more of w -/
theorem put_cnt {L ks : List Str} (hm : ∀ f, f ∈ ks ↔ f ∈ L) (w : Str) : putK (tbl L ks) (.inr w) (.int ((L.count w : Nat) + 1)) = tbl (L ++ [w]) (if w ∈ ks then ks else ks ++ [w]) := by
  have c : ∀ k, (L ++ [w]).count k = if k = w then L.count k + 1 else L.count k := fun k => by
    rw [List.count_append, List.count_singleton]
    by_cases e : k = w
    · subst e
      simp
    · have e2 : ¬ w = k := fun h => e h.symm
      simp [e, e2]
  by_cases h : w ∈ ks
  · rw [put_old h, if_pos h]
    refine List.map_congr_left fun k _ => ?_
    rw [c]
    by_cases e : k = w
    · subst e
      rw [if_pos rfl, if_pos rfl]
      rfl
    · rw [if_neg e, if_neg e]
  · rw [put_new h, if_neg h]
    have h0 := List.count_eq_zero_of_not_mem fun k => h ((hm w).mpr k)
    unfold tbl
    rw [List.map_append]
    congr 1
    · refine List.map_congr_left fun k hk => ?_
      rw [c, if_neg (show ¬ k = w from fun e => h (e ▸ hk))]
    · simp [c, h0]
theorem words1_len {z : Str} (h : judge z = none) : (words1 z).length ≤ 200 := by
  have := judge_len h
  have h1 := pieces_many z
  have h2 := List.length_filter_le isSW (pieces z)
  unfold words1
  omega
def LetOk (z : Str) : Prop := 1 ≤ z.length ∧ z.length ≤ 22 ∧ ∀ c ∈ z.cps.toList, c ∈ letS.cps.toList
def spIsRun : Sp := fun vs H Q _ => ∃ z : Str, vs = [.str z] ∧ 1 ≤ z.length ∧ z.length ≤ 1000 ∧ Q (.bl (isR z)) H
def spCost : Sp := fun vs H Q _ => ∃ z : Str, vs = [.str z] ∧ z.length ≤ 1000 ∧ ∀ H', Same H H' → Q (.int ((clist z).length : Nat)) H'
def spLWeight : Sp := fun vs H Q _ => ∃ (p : Addr) (ws : List Str) (z : Str), vs = [.ref p, .str z] ∧ H p = some (.lst (ms ws)) ∧ z.length ≤ 1000 ∧ ∀ H', Same H H' → Q (.int ((half ws z).length : Nat)) H'
def spLTotal : Sp := fun vs H Q _ => ∃ (p q : Addr) (ws zs : List Str), vs = [.ref p, .ref q] ∧ H p = some (.lst (ms ws)) ∧ H q = some (.lst (ms zs)) ∧ ws.length ≤ 100 ∧ zs.length ≤ 100 ∧ (∀ z ∈ zs, z.length ≤ 1000) ∧ (∀ w ∈ ws, w.length ≤ 1000) ∧ ∀ H', Same H H' → Q (.int (tot ws zs)) H'
def Due (H : Hp) (q : Addr) (ys : List Str) (f : Str → Int) : Prop := ∃ as : List Addr, H q = some (.lst (as.map V.ref)) ∧ as.length = ys.length ∧ ∀ (i : Nat) (a : Addr) (w : Str), as[i]? = some a → ys[i]? = some w → H a = some (.lst [.str w, .int (f w)])
theorem Due.same {H H' : Hp} {q : Addr} {ys : List Str} {f : Str → Int} (h : Due H q ys f) (s : Same H H') : Due H' q ys f := by
  obtain ⟨as, h1, h2, h3⟩ := h
  exact ⟨as, s _ _ h1, h2, fun i a w e1 e2 => s _ _ (h3 i a w e1 e2)⟩
def cntI (L : List Str) (w : Str) : Int := (L.count w : Nat)
def spLCounted (K : PySem.W.Frag) : Sp := fun vs H Q _ => ∃ (p : Addr) (zs : List Str), vs = [.ref p] ∧ Sq H p (ms zs) ∧ zs.length ≤ 100 ∧ GoodT zs ∧ ∀ q ys H', Same H H' → H q = none → DistOf (words zs) ys → Due H' q ys (cntI (words zs)) → Q (.ref q) H'
def spPool : Sp := fun vs H Q _ => ∃ b : Addr, vs = [.ref b] ∧ Bag H b ∧ ∀ p ws H', Kp b H H' → H p = none → H' p = some (.lst (ms ws)) → 1 ≤ ws.length → ws.length ≤ 6 → (∀ w ∈ ws, LetOk w) → Q (.ref p) H'
def spPText : Sp := fun vs H Q _ => ∃ (b p : Addr) (ws : List Str), vs = [.ref b, .ref p] ∧ Bag H b ∧ H p = some (.lst (ms ws)) ∧ 1 ≤ ws.length ∧ ws.length ≤ 10 ∧ (∀ w ∈ ws, LetOk w) ∧ ∀ (z : Str) (H' : Hp), judge z = none → Kp b H H' → Q (.str z) H'
def spEquals : Sp := fun vs H Q _ => ∃ m n : Int, vs = [.int m, .int n] ∧ Q (.bl (decide (m = n))) H
def spTable : Sp := fun vs H Q _ => ∃ (d q : Addr) (L ys : List Str), vs = [.ref d, .ref q] ∧ H d = some (.dK (tbl L ys)) ∧ Due H q ys (cntI L) ∧ ys.length ≤ 100000 ∧ (∀ y ∈ ys, isSW y = true) ∧ ∀ H', Same H H' → Q (.bl true) H'
def spTold (K : PySem.W.Frag) : Sp := fun vs H Q _ => ∃ (p q : Addr) (w : Str) (zs ws : List Str), vs = [.ref p, .ref q, .str w] ∧ Sq H p (ms zs) ∧ zs.length ≤ 100 ∧ GoodT zs ∧ H q = some (.lst (ms ws)) ∧ LotOk ws ∧ isSW w = true ∧ ∀ H', Same H H' → Q (.bl true) H'
def BadL (H : Hp) (way : Int) (l : List V) (i : Int) : Prop := (0 ≤ way ∧ way ≤ 3 ∧ FirstT H l i) ∨ (way = 4 ∧ ∃ v, l = [v] ∧ JudgedBy H v (some i))
def spAskW (K : PySem.W.Frag) : Sp := fun vs H Q E => ∃ (way : Int) (p x : Addr) (v : V) (l : List V) (ws : List Str), vs = [.int way, .ref p, v, .ref x] ∧ Sq H p l ∧ l.length ≤ 100 ∧ Lot K H x ws ∧
  ((∃ i, BadL H way l i ∧ BadX K H i E) ∨
   (∃ zs, way = 2 ∧ l = ms zs ∧ GoodT zs ∧ BadS H v ∧ ∀ d H', Same H H' → H d = none → H' d = some (.xd [("word", v)]) → E (.ref (He.ga K "BadLot")) (some d) H') ∨
   (∃ zs, (way = 0 ∨ way = 2) ∧ l = ms zs ∧ GoodT zs ∧ (∃ w, v = .str w ∧ isSW w = true) ∧ ∀ r H', Same H H' → Q r H'))
def spAsked (K : PySem.W.Frag) : Sp := fun vs H Q _ => ∃ (way : Int) (p x : Addr) (v : V) (l : List V) (ws : List Str), vs = [.int way, .ref p, v, .ref x] ∧ Sq H p l ∧ l.length ≤ 100 ∧ Lot K H x ws ∧
  ((∃ i, BadL H way l i ∧ -10 ≤ i ∧ i ≤ 1000 ∧ ∀ r H', Same H H' → H' r = some (.lst [.str "text", .str (PyData.int i).shown]) → Q (.ref r) H') ∨
   (∃ zs d, way = 2 ∧ l = ms zs ∧ GoodT zs ∧ BadS H v ∧ Shw K H v d ∧ ∀ r H', Same H H' → H' r = some (.lst [.str "word", .str d.shown]) → Q (.ref r) H') ∨
   (∃ zs, (way = 0 ∨ way = 2) ∧ l = ms zs ∧ GoodT zs ∧ (∃ w, v = .str w ∧ isSW w = true) ∧ ∀ r H', Same H H' → H' r = some (.lst [.str "fine"]) → Q (.ref r) H'))
def spRefs : Sp := fun vs H Q _ => ∃ (b p q : Addr) (zs ws : List Str), vs = [.ref b, .ref p, .ref q] ∧ Bag H b ∧ H p = some (.lst (ms zs)) ∧ zs.length ≤ 10 ∧ GoodT zs ∧ H q = some (.lst (ms ws)) ∧ LotOk ws ∧ ∀ H', Q (.bl true) H'
def spLaw (K : PySem.W.Frag) : Sp := fun vs H Q _ => ∃ (a : Addr) (ns : List Int), vs = [.ref a] ∧ SqL K H a (ns.map V.int) ∧ ns.length ≤ 1000 ∧ ∀ H', Q (.bl true) H'
theorem flat_map2 {α : Type} (d : α) (f : α → Int) (l : List α) : ((List.range l.length).map fun i => [V.int (f (l.getD i d))]).flatten = mi (l.map f) := by
  have g : ∀ n, n ≤ l.length → ((List.range n).map fun i => [V.int (f (l.getD i d))]).flatten = mi ((l.take n).map f) := by
    intro n
    induction n with
    | zero => intro _; rfl
    | succ n ih =>
      intro hn
      have hn' : n < l.length := by omega
      have e : l.getD n d = l[n] := by rw [List.getD_eq_getElem?_getD, List.getElem?_eq_getElem hn']; rfl
      rw [flat_succ, ih (by omega), e, List.take_add_one, List.getElem?_eq_getElem hn', List.map_append, mi_app]
      rfl
  have := g l.length (Nat.le_refl _)
  rw [List.take_length] at this
  exact this
theorem flat_map3 {α : Type} (d : α) (F : α → V) (l : List α) : ((List.range l.length).map fun i => [F (l.getD i d)]).flatten = l.map F := by
  have g : ∀ n, n ≤ l.length → ((List.range n).map fun i => [F (l.getD i d)]).flatten = (l.take n).map F := by
    intro n
    induction n with
    | zero => intro _; rfl
    | succ n ih =>
      intro hn
      have hn' : n < l.length := by omega
      have e : l.getD n d = l[n] := by rw [List.getD_eq_getElem?_getD, List.getElem?_eq_getElem hn']; rfl
      rw [flat_succ, ih (by omega), e, List.take_add_one, List.getElem?_eq_getElem hn', List.map_append]
      rfl
  have := g l.length (Nat.le_refl _)
  rw [List.take_length] at this
  exact this
theorem kb_dict_dict : kitB "dict" "dict" = some true := by decide +kernel
theorem keys_tbl (L ks : List Str) : (tbl L ks).map (fun kv => kV kv.1) = ms ks := by
  unfold tbl
  rw [List.map_map]
  rfl
/-- the pair at a place -/
theorem due_at {H : Hp} {as : List Addr} {ys : List Str} {f : Str → Int} (h2 : as.length = ys.length) (h3 : ∀ (i : Nat) (a : Addr) (w : Str), as[i]? = some a → ys[i]? = some w → H a = some (.lst [.str w, .int (f w)])) {i : Nat} {y : V} (hy : (as.map V.ref)[i]? = some y) :
    ∃ a w, y = .ref a ∧ w ∈ ys ∧ ys.getD i "" = w ∧ i < ys.length ∧ H a = some (.lst [.str w, .int (f w)]) := by
  have hi := (List.getElem?_eq_some_iff.mp hy).1
  rw [List.length_map] at hi
  rw [List.getElem?_map, List.getElem?_eq_getElem hi] at hy
  have hi2 : i < ys.length := h2 ▸ hi
  exact ⟨as[i], ys[i], (Option.some.inj hy).symm, List.getElem_mem hi2, by rw [List.getD_eq_getElem?_getD, List.getElem?_eq_getElem hi2]; rfl, hi2, h3 i _ _ (List.getElem?_eq_getElem hi) (List.getElem?_eq_getElem hi2)⟩
theorem sum_lens {α : Type} (l : List (List α)) : (l.map fun x => (x.length : Int)).sum = (l.flatten.length : Nat) := by
  induction l with
  | nil => rfl
  | cons x l ih =>
    rw [List.map_cons, List.sum_cons, ih, List.flatten_cons, List.length_append]
    omega
theorem pg_run : ∀ (l run : List Nat), (∀ c ∈ run, isL c = true) → ∀ p ∈ pg run l, isR p = true → ∀ c ∈ p.cps.toList, isL c = true
  | [], run, hr, p, hp, _ => by
    unfold pg runS at hp
    split at hp
    · cases hp
    · rw [List.mem_singleton.mp hp]
      exact hr
  | c :: l, run, hr, p, hp, h => by
    by_cases hc : isL c = true
    · rw [pg_let hc] at hp
      exact pg_run l _ (fun x hx => by
        rcases List.mem_append.mp hx with hx | hx
        · exact hr x hx
        · rw [List.mem_singleton.mp hx]
          exact hc) p hp h
    · have hc2 : isL c = false := by simpa using hc
      rw [pg_non hc2] at hp
      rcases List.mem_append.mp hp with hp | hp
      · unfold runS at hp
        split at hp
        · cases hp
        · rw [List.mem_singleton.mp hp]
          exact hr
      · rcases List.mem_cons.mp hp with rfl | hp
        · have : isR (S1 c) = isL c := rfl
          rw [this, hc2] at h
          cases h
        · exact pg_run l [] (fun c hc => by cases hc) p hp h
theorem isSW_piece {z p : Str} (hp : p ∈ pieces z) : isSW p = (isR p && (decide (3 ≤ p.length) && decide (p.length ≤ 20))) := by
  have lp : p.cps.toList.length = p.length := Array.length_toList
  cases hr : isR p with
  | true =>
    have h := pg_run _ _ (fun c hc => by cases hc) p hp hr
    unfold isSW
    rw [List.all_eq_true.mpr h, Bool.and_true, Bool.true_and]
  | false =>
    rw [Bool.false_and]
    obtain ⟨c, hc, er⟩ := head_of (pieces_len hp).1
    rw [er] at hr
    have hn := of_decide_eq_false hr
    unfold isSW
    have : p.cps.toList.all isL = false := by
      cases hz : p.cps.toList with
      | nil => rw [hz] at lp; have := (pieces_len hp).1; rw [← lp] at this; exact absurd this (by decide)
      | cons d r =>
        rw [hz] at hc
        have e : d = c := Option.some.inj ((atI_get (xs := d :: r) (i := 0) rfl).symm.trans hc)
        subst e
        rw [List.all_cons, show isL d = false from decide_eq_false hn, Bool.false_and]
    rw [this, Bool.and_false]
theorem judge_all {z : Str} (h : judge z = none) : ∀ c ∈ z.cps.toList, c ∈ signs1.cps.toList := by
  unfold judge at h
  split at h
  · cases h
  · have g : ∀ (l : List Nat) (k : Nat), firstBad l k = none → ∀ c ∈ l, c ∈ signs1.cps.toList := by
      intro l
      induction l with
      | nil => intro k _ c hc; cases hc
      | cons d r ih =>
        intro k hk c hc
        unfold firstBad at hk
        split at hk
        · rename_i hd
          rcases List.mem_cons.mp hc with rfl | hc
          · exact hd
          · exact ih _ hk c hc
        · cases hk
    exact g _ _ h
theorem pgc_sub : ∀ (l run : List Nat), ∀ p ∈ pg run l, ∀ c ∈ p.cps.toList, c ∈ run ∨ c ∈ l
  | [], run, p, hp, c, hc => by
    unfold pg runS at hp
    split at hp
    · cases hp
    · rw [List.mem_singleton.mp hp] at hc
      exact .inl hc
  | d :: l, run, p, hp, c, hc => by
    by_cases hd : isL d = true
    · rw [pg_let hd] at hp
      rcases pgc_sub l _ p hp c hc with h | h
      · rcases List.mem_append.mp h with h | h
        · exact .inl h
        · exact .inr (by rw [List.mem_singleton.mp h]; exact List.mem_cons_self)
      · exact .inr (List.mem_cons_of_mem _ h)
    · have hd2 : isL d = false := by simpa using hd
      rw [pg_non hd2] at hp
      rcases List.mem_append.mp hp with hp | hp
      · unfold runS at hp
        split at hp
        · cases hp
        · rw [List.mem_singleton.mp hp] at hc
          exact .inl hc
      · rcases List.mem_cons.mp hp with rfl | hp
        · exact .inr (by rw [List.mem_singleton.mp hc]; exact List.mem_cons_self)
        · rcases pgc_sub l [] p hp c hc with h | h
          · cases h
          · exact .inr (List.mem_cons_of_mem _ h)
theorem sign1_lt : ∀ c ∈ signs1.cps.toList, c < 200 := by decide +kernel
theorem isF_piece {z p : Str} (h : judge z = none) (hp : p ∈ pieces z) : isF (.str p) = true := by
  show PyData.strOk p = true
  unfold PyData.strOk
  rw [← Array.all_toList, List.all_eq_true]
  intro x hx
  rcases pgc_sub _ _ p hp x hx with h2 | h2
  · cases h2
  · exact decide_eq_true (Nat.lt_trans (sign1_lt x (judge_all h x h2)) (by decide))
theorem putK_len (kvs : List (Key × V)) (k : Key) (v : V) : (putK kvs k v).length ≤ kvs.length + 1 := by
  unfold putK
  split
  · rw [List.length_map]
    omega
  · rw [List.length_append]
    exact Nat.le_refl _
theorem nodup_len : ∀ {ys l : List Str}, ys.Nodup → (∀ f ∈ ys, f ∈ l) → ys.length ≤ l.length
  | [], _, _, _ => Nat.zero_le _
  | y :: ys, l, nd, h => by
    obtain ⟨h1, h2⟩ := List.nodup_cons.mp nd
    have hy := h y List.mem_cons_self
    have := nodup_len (l := l.erase y) h2 fun f hf => (List.mem_erase_of_ne (show f ≠ y from fun e => h1 (e ▸ hf))).mpr (h f (List.mem_cons_of_mem _ hf))
    have h3 := List.length_erase_of_mem hy
    have h4 := List.length_pos_of_mem hy
    rw [List.length_cons]
    omega
theorem dist_len {l ys : List Str} (d : DistOf l ys) : ys.length ≤ l.length := nodup_len d.2.1 fun f hf => (d.2.2 f).mp hf
theorem words_len {zs : List Str} (hg : GoodT zs) : ∀ i, (words (zs.take i)).length ≤ 200 * i := by
  intro i
  induction i with
  | zero => exact Nat.le_refl _
  | succ i ih =>
    unfold words at ih ⊢
    rw [List.take_add_one, List.map_append, List.flatten_append, List.length_append]
    cases h : zs[i]? with
    | none => simp at ih ⊢; omega
    | some z =>
      have := words1_len (hg z (List.mem_of_getElem? h))
      simp at ih ⊢
      omega
/-! ### the best lot -/
def cst (p : Str) : Nat := (clist p).length
def leK (v : Str → Int) (a b : Str) : Prop := v a < v b ∨ (v a = v b ∧ sle a b)
theorem sle_refl (a : Str) : sle a a := List.le_refl _
theorem leK_anti {v : Str → Int} {a b : Str} (h1 : leK v a b) (h2 : leK v b a) : a = b := by
  rcases h1 with h1 | ⟨h1, g1⟩
  · rcases h2 with h2 | ⟨h2, _⟩ <;> omega
  · rcases h2 with h2 | ⟨h2, g2⟩
    · omega
    · exact sle_anti g1 g2
theorem leK_refl (v : Str → Int) (a : Str) : leK v a a := .inr ⟨rfl, sle_refl a⟩
theorem leK_trans {v : Str → Int} {a b c : Str} (h1 : leK v a b) (h2 : leK v b c) : leK v a c := by
  rcases h1 with h1 | ⟨h1, g1⟩
  · rcases h2 with h2 | ⟨h2, _⟩
    · exact .inl (by omega)
    · exact .inl (by omega)
  · rcases h2 with h2 | ⟨h2, g2⟩
    · exact .inl (by omega)
    · exact .inr ⟨by omega, sle_trans g1 g2⟩
inductive Le2 (R : Str → Str → Prop) : List Str → List Str → Prop where
  | nil : Le2 R [] []
  | cons {x y : Str} {xs ys : List Str} (h : R x y) (t : Le2 R xs ys) : Le2 R (x :: xs) (y :: ys)
theorem le2_shift {R : Str → Str → Prop} (tr : ∀ a b c, R a b → R b c → R a c) : ∀ {S N : List Str} {a : Str}, (a :: N).Pairwise R → Le2 R (N.take S.length) S → Le2 R ((a :: N).take S.length) S
  | [], _, _, _, _ => .nil
  | s :: S, [], a, _, h => by cases h
  | s :: S, n :: N, a, hp, h => by
    rw [List.length_cons, List.take_succ_cons] at h ⊢
    cases h with
    | cons h1 h2 =>
      obtain ⟨p1, p2⟩ := List.pairwise_cons.mp hp
      exact .cons (tr _ _ _ (p1 n List.mem_cons_self) h1) (le2_shift tr p2 h2)
theorem le2_sub {R : Str → Str → Prop} (rf : ∀ a, R a a) (tr : ∀ a b c, R a b → R b c → R a c) {S N : List Str} (h : S.Sublist N) : N.Pairwise R → Le2 R (N.take S.length) S := by
  induction h with
  | slnil => exact fun _ => .nil
  | cons a h ih => exact fun hp => le2_shift tr hp (ih (List.pairwise_cons.mp hp).2)
  | cons_cons a h ih =>
    intro hp
    rw [List.length_cons, List.take_succ_cons]
    exact .cons (rf a) (ih (List.pairwise_cons.mp hp).2)
def sumV (v : Str → Int) (l : List Str) : Int := (l.map v).sum
theorem sumV_cons (v : Str → Int) (x : Str) (l : List Str) : sumV v (x :: l) = v x + sumV v l := rfl
theorem sumV_perm {v : Str → Int} {a b : List Str} (h : a.Perm b) : sumV v a = sumV v b := by
  induction h with
  | nil => rfl
  | cons x _ ih => rw [sumV_cons, sumV_cons, ih]
  | swap x y l => rw [sumV_cons, sumV_cons, sumV_cons, sumV_cons]; omega
  | trans _ _ h1 h2 => rw [h1, h2]
theorem le2_sum {v : Str → Int} {xs ys : List Str} (h : Le2 (leK v) xs ys) : sumV v xs ≤ sumV v ys := by
  induction h with
  | nil => exact Int.le_refl _
  | cons h t ih =>
    rw [sumV_cons, sumV_cons]
    rcases h with h | ⟨h, _⟩ <;> omega
theorem le2_tie {v : Str → Int} {xs ys : List Str} (h : Le2 (leK v) xs ys) : sumV v ys ≤ sumV v xs → Le2 sle xs ys := by
  induction h with
  | nil => exact fun _ => .nil
  | cons h t ih =>
    intro hs
    rw [sumV_cons, sumV_cons] at hs
    have := le2_sum t
    rcases h with h | ⟨h, g⟩
    · omega
    · exact .cons g (ih (by omega))
instance (a b : Str) : Decidable (sle a b) := inferInstanceAs (Decidable (a.cps.toList ≤ b.cps.toList))
def upto (t : Str) (l : List Str) : Nat := l.countP fun x => decide (sle x t)
theorem le2_upto {xs ys : List Str} (h : Le2 sle xs ys) (t : Str) : upto t ys ≤ upto t xs := by
  unfold upto
  induction h with
  | nil => exact Nat.le_refl _
  | @cons x y xs ys h _ ih =>
    rw [List.countP_cons, List.countP_cons]
    by_cases hy : sle y t
    · have hx := sle_trans h hy
      simp only [decide_eq_true hx, decide_eq_true hy, if_true]
      omega
    · simp only [decide_eq_false hy, Bool.false_eq_true, if_false]
      split <;> omega
/-- one list of texts before the other -/
def ltS : List Str → List Str → Bool
  | [], [] => false
  | [], _ :: _ => true
  | _ :: _, [] => false
  | x :: xs, y :: ys => if x = y then ltS xs ys else decide (x.cps.toList < y.cps.toList)
theorem not_ltS : ∀ {A B : List Str}, A.Pairwise sle → B.Pairwise sle → A.length = B.length → (∀ t, upto t B ≤ upto t A) → ltS B A = false
  | [], [], _, _, _, _ => rfl
  | [], b :: B, _, _, h, _ => by cases h
  | a :: A, [], _, _, h, _ => by cases h
  | a :: A, b :: B, hA, hB, hl, hc => by
    obtain ⟨a1, a2⟩ := List.pairwise_cons.mp hA
    obtain ⟨b1, b2⟩ := List.pairwise_cons.mp hB
    unfold ltS
    by_cases e : b = a
    · subst e
      rw [if_pos rfl]
      refine not_ltS a2 b2 (by simpa using hl) fun t => ?_
      have := hc t
      unfold upto at this ⊢
      rw [List.countP_cons, List.countP_cons] at this
      omega
    · rw [if_neg e]
      have h1 : 1 ≤ upto b (b :: B) := by
        unfold upto
        rw [List.countP_cons, decide_eq_true (sle_refl b), if_pos rfl]
        omega
      have h2 : 0 < (a :: A).countP fun x => decide (sle x b) := Nat.lt_of_lt_of_le h1 (hc b)
      obtain ⟨x, hx, hxb⟩ := List.countP_pos_iff.mp h2
      have hxb := of_decide_eq_true hxb
      have hab : sle a b := by
        rcases List.mem_cons.mp hx with rfl | hx
        · exact hxb
        · exact sle_trans (a1 x hx) hxb
      exact decide_eq_false (fun h => hab h)
theorem filter_take {v : Str → Int} : ∀ {L : List Str} (m : Nat), L.Pairwise (leK v) → (L.take m).filter (fun w => decide (v w < 0)) = (L.filter fun w => decide (v w < 0)).take m
  | [], m, _ => by simp
  | a :: L, 0, _ => by simp
  | a :: L, m + 1, h => by
    obtain ⟨h1, h2⟩ := List.pairwise_cons.mp h
    rw [List.take_succ_cons]
    by_cases ha : v a < 0
    · rw [List.filter_cons_of_pos (by simpa using ha), List.filter_cons_of_pos (by simpa using ha), List.take_succ_cons, filter_take m h2]
    · have none_ : ∀ b ∈ L, ¬ v b < 0 := fun b hb => by
        rcases h1 b hb with g | ⟨g, _⟩ <;> omega
      have e1 : (L.filter fun w => decide (v w < 0)) = [] := List.filter_eq_nil_iff.mpr fun b hb => by
        have := none_ b hb
        simpa using this
      have e2 : ((L.take m).filter fun w => decide (v w < 0)) = [] := List.filter_eq_nil_iff.mpr fun b hb => by
        have := none_ b (List.mem_of_mem_take hb)
        simpa using this
      rw [List.filter_cons_of_neg (by simpa using ha), List.filter_cons_of_neg (by simpa using ha), e1, e2]
      simp
theorem sum_take_mono {v : Str → Int} : ∀ {N : List Str} {k m : Nat}, (∀ x ∈ N, v x < 0) → k ≤ m → sumV v (N.take m) ≤ sumV v (N.take k) ∧ ((N.take k).length < (N.take m).length → sumV v (N.take m) < sumV v (N.take k))
  | [], k, m, _, _ => by simp
  | a :: N, 0, 0, _, _ => by simp
  | a :: N, 0, m + 1, h, _ => by
    obtain ⟨h1, _⟩ := sum_take_mono (v := v) (N := N) (k := 0) (m := m) (fun x hx => h x (List.mem_cons_of_mem _ hx)) (Nat.zero_le _)
    have ha := h a List.mem_cons_self
    rw [List.take_succ_cons, sumV_cons]
    have e : sumV v (List.take 0 (a :: N)) = 0 := rfl
    have e2 : sumV v (List.take 0 N) = 0 := rfl
    rw [e]
    rw [e2] at h1
    exact ⟨by omega, fun _ => by omega⟩
  | a :: N, k + 1, 0, _, h => by omega
  | a :: N, k + 1, m + 1, h, hk => by
    obtain ⟨h1, h2⟩ := sum_take_mono (v := v) (N := N) (k := k) (m := m) (fun x hx => h x (List.mem_cons_of_mem _ hx)) (by omega)
    rw [List.take_succ_cons, List.take_succ_cons, sumV_cons, sumV_cons, List.length_cons, List.length_cons]
    exact ⟨by omega, fun g => by have := h2 (by omega); omega⟩
theorem sum_neg {v : Str → Int} (O : List Str) : sumV v (O.filter fun w => decide (v w < 0)) ≤ sumV v O := by
  induction O with
  | nil => exact Int.le_refl _
  | cons a O ih =>
    by_cases ha : v a < 0
    · rw [List.filter_cons_of_pos (by simpa using ha), sumV_cons, sumV_cons]
      omega
    · rw [List.filter_cons_of_neg (by simpa using ha), sumV_cons]
      omega
structure BestOf (v : Str → Int) (D : List Str) (m : Nat) (P : List Str) : Prop where
  ex : ∃ L : List Str, L.Perm D ∧ L.Pairwise (leK v) ∧ P = (L.take m).filter fun w => decide (v w < 0)
theorem best_ok {v : Str → Int} {D P names O : List Str} {m : Nat} (nd : D.Nodup) (b : BestOf v D m P) (hn : DistOf P names) (hO : O.Pairwise sle) (oD : O.Nodup) (om : O.length ≤ m) (hneg : ∀ w ∈ O, v w < 0 → w ∈ D) :
    P.Nodup ∧ P.length ≤ m ∧ names.Perm P ∧ sumV v names ≤ sumV v O ∧ (sumV v names = sumV v O → names.length ≤ O.length) ∧ (sumV v names = sumV v O → names.length = O.length → ltS O names = false) := by
  obtain ⟨L, hL, hs, eP⟩ := b.ex
  have ndL : L.Nodup := hL.nodup_iff.mpr nd
  rw [filter_take m hs] at eP
  have ndN : (L.filter fun w => decide (v w < 0)).Nodup := ndL.filter _
  have sN : (L.filter fun w => decide (v w < 0)).Pairwise (leK v) := hs.filter _
  have nN : ∀ x ∈ L.filter fun w => decide (v w < 0), v x < 0 := fun x hx => by simpa using (List.mem_filter.mp hx).2
  have mN : ∀ x, x ∈ D → v x < 0 → x ∈ L.filter fun w => decide (v w < 0) := fun x h1 h2 => List.mem_filter.mpr ⟨hL.mem_iff.mpr h1, by simpa using h2⟩
  generalize (L.filter fun w => decide (v w < 0)) = N at *
  have ndP : P.Nodup := by rw [eP]; exact ndN.sublist (List.take_sublist _ _)
  have lP : P.length ≤ m := by rw [eP, List.length_take]; omega
  have pn : names.Perm P := (List.perm_ext_iff_of_nodup hn.2.1 ndP).mpr hn.2.2
  -- what of the others is below 0
  have pS : (N.filter fun w => decide (w ∈ O)).Perm (O.filter fun w => decide (v w < 0)) := by
    refine (List.perm_ext_iff_of_nodup (ndN.filter _) (oD.filter _)).mpr fun x => ?_
    rw [List.mem_filter, List.mem_filter]
    constructor
    · rintro ⟨h1, h2⟩
      exact ⟨by simpa using h2, by simpa using nN x h1⟩
    · rintro ⟨h1, h2⟩
      have h2 : v x < 0 := by simpa using h2
      exact ⟨mN x (hneg x h1 h2) h2, by simpa using h1⟩
  have sub : (N.filter fun w => decide (w ∈ O)).Sublist N := List.filter_sublist
  generalize (N.filter fun w => decide (w ∈ O)) = S at *
  have l2 := le2_sub (leK_refl v) (fun _ _ _ => leK_trans) sub sN
  have e1 := le2_sum l2
  have e2 := sumV_perm (v := v) pS
  have e3 := sum_neg (v := v) O
  have lS : S.length ≤ O.length := by
    rw [pS.length_eq]
    exact List.length_filter_le _ _
  obtain ⟨e4, e5⟩ := sum_take_mono (v := v) (N := N) (k := S.length) (m := m) nN (by omega)
  have e6 := sumV_perm (v := v) pn
  have lsn : S.length ≤ N.length := sub.length_le
  rw [← eP] at e4 e5
  rw [e6, pn.length_eq]
  have lt : (N.take S.length).length = S.length := by rw [List.length_take]; omega
  rw [lt] at e5
  refine ⟨ndP, lP, pn, by omega, fun h => ?_, fun h hl => ?_⟩
  · by_cases g : S.length < P.length
    · have := e5 g
      omega
    · omega
  · have g : ¬ S.length < P.length := fun g => by
      have := e5 g
      omega
    have eN : N.take S.length = P := by
      rw [eP]
      have : P.length = min m N.length := by rw [eP, List.length_take]
      have hS : S.length = min m N.length := by omega
      rw [hS]
      by_cases q : m ≤ N.length
      · rw [Nat.min_eq_left q]
      · rw [Nat.min_eq_right (by omega), List.take_of_length_le (Nat.le_refl _), List.take_of_length_le (by omega)]
    rw [eN] at l2
    have t2 := le2_tie l2 (by omega)
    have eO : (O.filter fun w => decide (v w < 0)) = O := by
      refine List.filter_eq_self.mpr fun x hx => ?_
      have hlen : (O.filter fun w => decide (v w < 0)).length = O.length := by rw [← pS.length_eq]; omega
      exact (List.length_filter_eq_length_iff.mp hlen) x hx
    rw [eO] at pS
    refine not_ltS (sorted_pw hn.1) hO (by rw [pn.length_eq]; exact hl) fun t => ?_
    have := le2_upto t2 t
    unfold upto at this ⊢
    rw [pn.countP_eq, ← pS.countP_eq]
    exact this
/-! ### the sizes -/
def costV (T : List Str) (w : Str) : Int := (cst w : Int) + 3 - (T.count w : Int) * ((cst w : Int) - 2)
theorem sum_by {f : Str → Int} : ∀ {T D : List Str}, D.Nodup → (∀ p ∈ T, p ∈ D) → (T.map f).sum = (D.map fun w => (T.count w : Int) * f w).sum
  | [], D, _, _ => by
    have : ∀ D : List Str, (D.map fun w => (([] : List Str).count w : Int) * f w).sum = 0 := fun D => by
      induction D with
      | nil => rfl
      | cons a D ih => rw [List.map_cons, List.sum_cons, ih]; simp
    rw [this]
    rfl
  | a :: T, D, nd, h => by
    have ih := sum_by (f := f) (T := T) nd fun p hp => h p (List.mem_cons_of_mem _ hp)
    have key : ∀ D : List Str, D.Nodup → (D.map fun w => ((a :: T).count w : Int) * f w).sum = (D.map fun w => (T.count w : Int) * f w).sum + if a ∈ D then f a else 0 := by
      intro D
      induction D with
      | nil => intro _; rfl
      | cons d D ihD =>
        intro nd
        obtain ⟨n1, n2⟩ := List.nodup_cons.mp nd
        rw [List.map_cons, List.sum_cons, List.map_cons, List.sum_cons, ihD n2, List.count_cons]
        by_cases e : a = d
        · subst e
          rw [if_neg n1, if_pos List.mem_cons_self]
          simp only [beq_self_eq_true, if_true]
          rw [show ((T.count a + 1 : Nat) : Int) = (T.count a : Int) + 1 by omega, Int.add_mul]
          omega
        · have e2 : (a == d) = false := by simpa using e
          rw [e2]
          simp only [Bool.false_eq_true, if_false, Nat.add_zero, List.mem_cons, e, false_or]
          omega
    rw [List.map_cons, List.sum_cons, ih, key D nd, if_pos (h a List.mem_cons_self)]
    omega
def baseN (D zs : List Str) : Int := 3 * (zs.length : Int) + ((zs.map fun z => ((((pieces z).filter fun p => !decide (p ∈ D)).map fun p => (cst p : Int)).sum)).sum)
def sizeN (T D : List Str) (b : Int) (names : List Str) : Int := b + ((names.map fun w => (cst w : Int) + 3).sum) + ((D.map fun w => if w ∈ names then 2 * (T.count w : Int) else (cst w : Int) * (T.count w : Int)).sum)
theorem sizeN_eq {T D names : List Str} {b : Int} (nd : D.Nodup) (nn : names.Nodup) (hD : ∀ f, f ∈ D ↔ f ∈ T) : sizeN T D b names = b + ((D.map fun w => (cst w : Int) * (T.count w : Int)).sum) + sumV (costV T) names := by
  have h1 : ∀ D : List Str, (D.map fun w => if w ∈ names then 2 * (T.count w : Int) else (cst w : Int) * (T.count w : Int)).sum = (D.map fun w => (cst w : Int) * (T.count w : Int)).sum - ((D.filter fun w => decide (w ∈ names)).map fun w => (T.count w : Int) * ((cst w : Int) - 2)).sum := by
    intro D
    induction D with
    | nil => rfl
    | cons d D ih =>
      rw [List.map_cons, List.sum_cons, List.map_cons, List.sum_cons, ih]
      by_cases e : d ∈ names
      · rw [if_pos e, List.filter_cons_of_pos (by simpa using e), List.map_cons, List.sum_cons, Int.mul_sub, Int.mul_comm (T.count d : Int) (cst d : Int)]
        omega
      · rw [if_neg e, List.filter_cons_of_neg (by simpa using e)]
        omega
  have h2 : ((D.filter fun w => decide (w ∈ names)).map fun w => (T.count w : Int) * ((cst w : Int) - 2)).sum = (names.map fun w => (T.count w : Int) * ((cst w : Int) - 2)).sum := by
    have p : (D.filter fun w => decide (w ∈ names)).Perm (names.filter fun w => decide (w ∈ D)) := by
      refine (List.perm_ext_iff_of_nodup (nd.filter _) (nn.filter _)).mpr fun x => ?_
      simp only [List.mem_filter, decide_eq_true_eq]
      exact and_comm
    have e := sumV_perm (v := fun w => (T.count w : Int) * ((cst w : Int) - 2)) p
    unfold sumV at e
    rw [e]
    have g : ∀ l : List Str, ((l.filter fun w => decide (w ∈ D)).map fun w => (T.count w : Int) * ((cst w : Int) - 2)).sum = (l.map fun w => (T.count w : Int) * ((cst w : Int) - 2)).sum := by
      intro l
      induction l with
      | nil => rfl
      | cons d l ih =>
        by_cases e : d ∈ D
        · rw [List.filter_cons_of_pos (by simpa using e), List.map_cons, List.sum_cons, List.map_cons, List.sum_cons, ih]
        · rw [List.filter_cons_of_neg (by simpa using e), List.map_cons, List.sum_cons, ih, List.count_eq_zero_of_not_mem fun k => e ((hD d).mpr k)]
          simp
    exact g names
  have h3 : sumV (costV T) names = ((names.map fun w => (cst w : Int) + 3).sum) - (names.map fun w => (T.count w : Int) * ((cst w : Int) - 2)).sum := by
    unfold sumV costV
    clear h1 h2 nn
    induction names with
    | nil => rfl
    | cons d l ih =>
      rw [List.map_cons, List.sum_cons, List.map_cons, List.sum_cons, List.map_cons, List.sum_cons, ih]
      omega
  unfold sizeN
  rw [h1 D, h2, h3]
  omega
theorem half_cnt (ws : List Str) (z : Str) : ((half ws z).length : Int) = 3 + ((pieces z).map fun p => if p ∈ ws then (2 : Int) else (cst p : Int)).sum := by
  have h := sum_lens ((pieces z).map (half1 ws))
  unfold half
  rw [List.length_append, show ([15, 0, 0] : List Int).length = 3 from rfl]
  rw [List.map_map] at h
  have e : (pieces z).map ((fun x : List Int => (x.length : Int)) ∘ half1 ws) = (pieces z).map fun p => if p ∈ ws then (2 : Int) else (cst p : Int) := by
    refine List.map_congr_left fun p _ => ?_
    show ((half1 ws p).length : Int) = _
    unfold half1
    split
    · rfl
    · rfl
  rw [e] at h
  rw [h]
  omega
theorem pg_all : ∀ (l run : List Nat), (∀ c ∈ l, isL c = true) → run ++ l ≠ [] → pg run l = [mkS (run ++ l)]
  | [], run, _, h => by
    rw [List.append_nil] at h ⊢
    unfold pg runS
    rw [if_neg h]
  | c :: l, run, hc, h => by
    rw [pg_let (hc c List.mem_cons_self), pg_all l (run ++ [c]) (fun d hd => hc d (List.mem_cons_of_mem _ hd)) (by simp)]
    simp
theorem pieces_sw {w : Str} (h : isSW w = true) : pieces w = [w] := by
  have l3 := (isSW_len h).1
  have e : w.cps.toList.length = w.length := Array.length_toList
  unfold pieces
  rw [pg_all _ [] (fun c hc => decide_eq_true (isSW_mem h c hc)) (fun k => by
    rw [List.nil_append] at k
    rw [k] at e
    rw [← e] at l3
    exact absurd l3 (by decide))]
  rfl
theorem sw_half {w : Str} (h : isSW w = true) : ((half [] w).length : Int) = (cst w : Int) + 3 := by
  rw [half_cnt, pieces_sw h]
  simp
  omega
theorem mem_words {zs : List Str} {f : Str} : f ∈ words zs ↔ ∃ z ∈ zs, f ∈ pieces z ∧ isSW f = true := by
  unfold words words1
  simp only [List.mem_flatten, List.mem_map]
  constructor
  · rintro ⟨_, ⟨z, hz, rfl⟩, h⟩
    exact ⟨z, hz, List.mem_filter.mp h⟩
  · rintro ⟨z, hz, h⟩
    exact ⟨_, ⟨z, hz, rfl⟩, List.mem_filter.mpr h⟩
theorem tot_eq {zs D ws : List Str} (nd : D.Nodup) (hD : ∀ f, f ∈ D ↔ f ∈ words zs) (hw : ∀ w ∈ ws, w ∈ D) : tot ws zs = sizeN (words zs) D (baseN D zs) ws := by
  have sw : ∀ f ∈ D, isSW f = true := fun f hf => by
    obtain ⟨z, _, _, h⟩ := mem_words.mp ((hD f).mp hf)
    exact h
  have h1 : ∀ l : List Str, (∀ z ∈ l, z ∈ zs) → ((l.map fun z => ((half ws z).length : Int)).sum) = 3 * (l.length : Int) + ((l.map fun z => ((((pieces z).filter fun p => !decide (p ∈ D)).map fun p => (cst p : Int)).sum)).sum) + (((l.map words1).flatten.map fun p => if p ∈ ws then (2 : Int) else (cst p : Int)).sum) := by
    intro l
    induction l with
    | nil => intro _; rfl
    | cons z l ih =>
      intro hz
      rw [List.map_cons, List.sum_cons, ih fun y hy => hz y (List.mem_cons_of_mem _ hy), List.map_cons, List.sum_cons, List.map_cons, List.flatten_cons, List.map_append, List.sum_append, half_cnt, List.length_cons]
      have g : ∀ ps : List Str, (∀ p ∈ ps, p ∈ pieces z) → (ps.map fun p => if p ∈ ws then (2 : Int) else (cst p : Int)).sum = ((ps.filter fun p => !decide (p ∈ D)).map fun p => (cst p : Int)).sum + ((ps.filter isSW).map fun p => if p ∈ ws then (2 : Int) else (cst p : Int)).sum := by
        intro ps
        induction ps with
        | nil => intro _; rfl
        | cons p ps ih =>
          intro hp
          rw [List.map_cons, List.sum_cons, ih fun q hq => hp q (List.mem_cons_of_mem _ hq)]
          by_cases e : isSW p = true
          · have m : p ∈ D := (hD p).mpr (mem_words.mpr ⟨z, hz z List.mem_cons_self, hp p List.mem_cons_self, e⟩)
            rw [List.filter_cons_of_neg (by simpa using m), List.filter_cons_of_pos e, List.map_cons, List.sum_cons]
            omega
          · have m : ¬ p ∈ D := fun k => e (sw p k)
            have mw : ¬ p ∈ ws := fun k => m (hw p k)
            rw [List.filter_cons_of_pos (by simpa using m), List.filter_cons_of_neg e, List.map_cons, List.sum_cons, if_neg mw]
            omega
      have g2 := g (pieces z) fun p hp => hp
      unfold words1
      rw [g2]
      simp only [Int.natCast_add]
      omega
  have h2 := sum_by (f := fun p => if p ∈ ws then (2 : Int) else (cst p : Int)) (T := words zs) nd fun p hp => (hD p).mpr hp
  have h3 : (ws.map fun w => ((half [] w).length : Int)) = ws.map fun w => (cst w : Int) + 3 := List.map_congr_left fun w hm => sw_half (sw w (hw w hm))
  have h4 : (D.map fun w => ((words zs).count w : Int) * (if w ∈ ws then (2 : Int) else (cst w : Int))) = D.map fun w => if w ∈ ws then 2 * ((words zs).count w : Int) else (cst w : Int) * ((words zs).count w : Int) := by
    refine List.map_congr_left fun w _ => ?_
    split
    · exact Int.mul_comm _ _
    · exact Int.mul_comm _ _
  rw [h4] at h2
  unfold tot sizeN baseN
  rw [h1 zs (fun z hz => hz), h3]
  unfold words at h2 ⊢
  rw [h2]
  omega
/-! ### how Python compares the three -/
theorem row_strs : ∀ A B : List Str, PyProof.Rows.lexLt PyProof.Rows.itemOrd (PySem.W.keyToksAll (A.map PyData.str)) (PySem.W.keyToksAll (B.map PyData.str)) = ltS A B
  | [], [] => PyProof.Rows.lex_irrefl _
  | [], y :: B => by
    rw [List.map_nil, List.map_cons, PySem.W.keyToksAll, PySem.W.keyToksAll, PyProof.Rows.lex_cons]
    rfl
  | x :: A, [] => by
    rw [List.map_nil, List.map_cons, PySem.W.keyToksAll, PySem.W.keyToksAll, PyProof.Rows.lex_cons]
    rfl
  | x :: A, y :: B => by
    rw [List.map_cons, List.map_cons, PySem.W.dataLt_cons (by simp [PySem.W.alike]), row_strs A B, PySem.W.dataLt_str]
    simp only [PyData.eqv, ltS]
    by_cases e : x = y
    · subst e
      simp
    · simp [e]
theorem eqv_strs : ∀ A B : List Str, PyData.eqvAll (A.map PyData.str) (B.map PyData.str) = decide (A = B)
  | [], [] => by simp [PyData.eqvAll]
  | [], _ :: _ => by simp [PyData.eqvAll]
  | _ :: _, [] => by simp [PyData.eqvAll]
  | x :: A, y :: B => by
    rw [List.map_cons, List.map_cons, PyData.eqvAll, eqv_strs A B]
    by_cases e : x = y <;> simp [PyData.eqv, e]
theorem ltS_self : ∀ A : List Str, ltS A A = false
  | [] => rfl
  | x :: A => by
    unfold ltS
    rw [if_pos rfl, ltS_self A]
theorem cmp3 (a n b m : Int) (A B : List Str) : PySem.W.dataLt (.list [.int b, .int m, .list (B.map PyData.str)]) (.list [.int a, .int n, .list (A.map PyData.str)]) = if b = a then (if m = n then ltS B A else decide (m < n)) else decide (b < a) := by
  have al : ∀ A B : List Str, PySem.W.alikeAll (A.map PyData.str) (B.map PyData.str) = true := fun A => by
    induction A with
    | nil => intro B; cases B <;> simp [PySem.W.alikeAll]
    | cons x A ih =>
      intro B
      cases B with
      | nil => simp [PySem.W.alikeAll]
      | cons y B => simp [PySem.W.alikeAll, PySem.W.alike, ih B]
  have h3 : PyProof.Rows.lexLt PyProof.Rows.itemOrd (PySem.W.keyToksAll [PyData.list (B.map PyData.str)]) (PySem.W.keyToksAll [PyData.list (A.map PyData.str)]) = ltS B A := by
    rw [PySem.W.dataLt_cons (by rw [PySem.W.alike]; exact al B A), PySem.W.dataLt_list, row_strs, PyData.eqv, eqv_strs]
    by_cases e : B = A
    · subst e
      rw [ltS_self]
      simp
      exact PyProof.Rows.lex_irrefl _
    · rw [decide_eq_false e]
      rfl
  rw [PySem.W.dataLt_list, PySem.W.dataLt_cons (by simp [PySem.W.alike]), PySem.W.dataLt_cons (by simp [PySem.W.alike]), PySem.W.dataLt_int, PySem.W.dataLt_int, h3]
  simp only [PyData.eqv, beq_iff_eq]
/-! ### sorted pairs -/
abbrev encP (v : Str → Int) (p : Addr × Str) : V × PyData := (V.ref p.1, PyData.tuple [.int (v p.2), .str p.2])
theorem dataLt_is (x : Int) (y : Str) (x' : Int) (y' : Str) : PySem.W.dataLt (.tuple [.int x, .str y]) (.tuple [.int x', .str y']) = decide (x < x' ∨ (x = x' ∧ y.cps.toList < y'.cps.toList)) := by
  rw [PySem.W.dataLt_pair (by simp [PySem.W.alike]) (by simp [PySem.W.alike]), PySem.W.dataLt_int, PySem.W.dataLt_str]
  simp only [PyData.eqv, beq_iff_eq]
  by_cases h1 : x = x'
  · subst h1
    by_cases h2 : y = y'
    · subst h2
      simp [List.lt_irrefl]
    · simp [h2]
  · simp [h1]
theorem leK_total (v : Str → Int) (a b : Str) : leK v a b ∨ leK v b a := by
  unfold leK
  rcases Int.lt_trichotomy (v a) (v b) with h | h | h
  · exact .inl (.inl h)
  · rcases List.le_total a.cps.toList b.cps.toList with g | g
    · exact .inl (.inr ⟨h, g⟩)
    · exact .inr (.inr ⟨h.symm, g⟩)
  · exact .inr (.inl h)
instance (v : Str → Int) (a b : Str) : Decidable (leK v a b) := inferInstanceAs (Decidable (_ ∨ _))
theorem sort_is (v : Str → Int) (l : List (Addr × Str)) : ∃ ps : List (Addr × Str), srtD (l.map (encP v)) = ps.map (encP v) ∧ ps.Perm l ∧ (ps.map (·.2)).Pairwise (leK v) := by
  have hr : ∀ p q : Addr × Str, decide (leK v p.2 q.2) = PySem.W.dataLe false (fun p : V × PyData => p.2) (encP v p) (encP v q) := fun p q => by
    show _ = (!PySem.W.dataLt (.tuple [.int (v q.2), .str q.2]) (.tuple [.int (v p.2), .str p.2]))
    rw [dataLt_is]
    by_cases h : v q.2 < v p.2 ∨ (v q.2 = v p.2 ∧ q.2.cps.toList < p.2.cps.toList)
    · rw [decide_eq_true h, decide_eq_false]
      · rfl
      · rintro (g | ⟨g1, g2⟩)
        · rcases h with h | ⟨h, _⟩ <;> omega
        · rcases h with h | ⟨_, h⟩
          · omega
          · exact g2 h
    · rw [decide_eq_false h, decide_eq_true]
      · rfl
      · rcases Int.lt_trichotomy (v p.2) (v q.2) with g | g | g
        · exact .inl g
        · exact .inr ⟨g, fun k => h (.inr ⟨g.symm, k⟩)⟩
        · exact absurd (.inl g) h
  refine ⟨l.mergeSort fun p q => decide (leK v p.2 q.2), ?_, List.mergeSort_perm _ _, ?_⟩
  · exact (List.map_mergeSort fun p _ q _ => hr p q).symm
  · refine List.pairwise_map.mpr ?_
    refine (List.pairwise_mergeSort (fun a b c h1 h2 => ?_) (fun a b => ?_) l).imp fun h => of_decide_eq_true h
    · exact decide_eq_true (leK_trans (of_decide_eq_true h1) (of_decide_eq_true h2))
    · rw [Bool.or_eq_true, decide_eq_true_eq, decide_eq_true_eq]
      exact leK_total v a.2 b.2
theorem pg_long : ∀ (l run : List Nat), (∀ c ∈ run, isL c = true) → ∀ p ∈ pg run l, 2 ≤ p.length → ∀ c ∈ p.cps.toList, isL c = true
  | [], run, hr, p, hp, _ => by
    unfold pg runS at hp
    split at hp
    · cases hp
    · rw [List.mem_singleton.mp hp]
      exact hr
  | c :: l, run, hr, p, hp, h => by
    by_cases hc : isL c = true
    · rw [pg_let hc] at hp
      exact pg_long l _ (fun x hx => by
        rcases List.mem_append.mp hx with hx | hx
        · exact hr x hx
        · rw [List.mem_singleton.mp hx]
          exact hc) p hp h
    · have hc2 : isL c = false := by simpa using hc
      rw [pg_non hc2] at hp
      rcases List.mem_append.mp hp with hp | hp
      · unfold runS at hp
        split at hp
        · cases hp
        · rw [List.mem_singleton.mp hp]
          exact hr
      · rcases List.mem_cons.mp hp with rfl | hp
        · exact absurd (show 2 ≤ 1 from h) (by decide)
        · exact pg_long l [] (fun c hc => by cases hc) p hp h
theorem isSW_len_iff {z p : Str} (hp : p ∈ pieces z) : isSW p = (decide (3 ≤ p.length) && decide (p.length ≤ 20)) := by
  by_cases h : 3 ≤ p.length
  · unfold isSW
    rw [List.all_eq_true.mpr (pg_long _ _ (fun c hc => by cases hc) p hp (by omega)), Bool.and_true]
  · unfold isSW
    rw [decide_eq_false h]
    rfl
theorem flat_fm (f : Str → Bool) (g : Str → V) (l : List Str) : ((List.range (ms l).length).map fun i => if f (l.getD i "") = true then [g (l.getD i "")] else []).flatten = (l.filter f).map g := by
  have k : ∀ n, n ≤ l.length → ((List.range n).map fun i => if f (l.getD i "") = true then [g (l.getD i "")] else []).flatten = ((l.take n).filter f).map g := by
    intro n
    induction n with
    | zero => intro _; rfl
    | succ n ih =>
      intro hn
      have hn' : n < l.length := by omega
      have e : l.getD n "" = l[n] := by rw [List.getD_eq_getElem?_getD, List.getElem?_eq_getElem hn']; rfl
      rw [flat_succ, ih (by omega), e, List.take_add_one, List.getElem?_eq_getElem hn', List.filter_append]
      show _ ++ _ = List.map g (_ ++ List.filter f [l[n]])
      by_cases hf : f l[n] = true
      · rw [if_pos hf, List.filter_cons_of_pos hf]
        simp
      · rw [if_neg hf, List.filter_cons_of_neg hf]
        simp
  have := k l.length (Nat.le_refl _)
  rw [List.take_length] at this
  rw [List.length_map]
  exact this
theorem dist_one {l a b : List Str} (da : DistOf l a) (db : DistOf l b) : a = b :=
  pw_uniq (sorted_pw da.1) (sorted_pw db.1) ((List.perm_ext_iff_of_nodup da.2.1 db.2.1).mpr fun x => (da.2.2 x).trans (db.2.2 x).symm)
theorem dist_same {ws ys : List Str} (so : sortedS ws = true) (nd : ws.Nodup) (d : DistOf ws ys) : ys = ws := dist_one d ⟨so, nd, fun _ => Iff.rfl⟩
theorem neg_mem {T : List Str} {w : Str} (h : costV T w < 0) : w ∈ T := by
  refine Classical.byContradiction fun k => ?_
  unfold costV at h
  rw [List.count_eq_zero_of_not_mem k] at h
  omega
def GoodO (m : Nat) (O : List Str) : Prop := O.Pairwise sle ∧ O.Nodup ∧ O.length ≤ m ∧ ∀ w ∈ O, isSW w = true
theorem GoodO.sub {m : Nat} {O O' : List Str} (h : GoodO m O) (s : O'.Sublist O) : GoodO m O' := ⟨h.1.sublist s, h.2.1.sublist s, Nat.le_trans s.length_le h.2.2.1, fun w hw => h.2.2.2 w (s.subset hw)⟩
def spX : Sp := fun _ _ _ _ => False
def spWCost : Sp := fun vs H Q _ => ∃ z : Str, vs = [.str z] ∧ z.length ≤ 1000 ∧ ∀ H', Same H H' → Q (.int (cst z : Nat)) H'
def spGain : Sp := fun vs H Q _ => ∃ (z : Str) (n : Nat), vs = [.str z, .int n] ∧ z.length ≤ 1000 ∧ n ≤ 100000 ∧ ∀ H', Same H H' → Q (.int ((n : Int) * ((cst z : Int) - 2) - ((cst z : Int) + 3))) H'
def spBestL (K : PySem.W.Frag) : Sp := fun vs H Q _ => ∃ (p : Addr) (m : Nat) (zs : List Str), vs = [.ref p, .int m] ∧ Sq H p (ms zs) ∧ GoodT zs ∧ zs.length ≤ 300 ∧ m ≤ 16 ∧
  ∀ x D P ws H', Same H H' → DistOf (words zs) D → BestOf (costV (words zs)) D m P → DistOf P ws → Lot K H' x ws → Q (.ref x) H'
def Tab (H : Hp) (q : Addr) (D T : List Str) : Prop := ∃ as : List Addr, H q = some (.lst (as.map V.ref)) ∧ as.length = D.length ∧ ∀ (i : Nat) (a : Addr) (w : Str), as[i]? = some a → D[i]? = some w → H a = some (.lst [.str w, .int (cst w : Nat), .int (T.count w : Nat)])
def spRunsT : Sp := fun vs H Q _ => ∃ (p : Addr) (zs : List Str), vs = [.ref p] ∧ H p = some (.lst (ms zs)) ∧ GoodT zs ∧ zs.length ≤ 300 ∧ ∀ q D H', Same H H' → H q = none → DistOf (words zs) D → Tab H' q D (words zs) → Q (.ref q) H'
def spBaseT : Sp := fun vs H Q _ => ∃ (p q : Addr) (zs D : List Str), vs = [.ref p, .ref q] ∧ H p = some (.lst (ms zs)) ∧ GoodT zs ∧ zs.length ≤ 300 ∧ Tab H q D (words zs) ∧ D.length ≤ 60000 ∧ ∀ H', Same H H' → Q (.int (baseN D zs)) H'
def spSizeT : Sp := fun vs H Q _ => ∃ (q r : Addr) (b : Int) (T D names : List Str), vs = [.ref q, .int b, .ref r] ∧ Tab H q D T ∧ D.length ≤ 60000 ∧ T.length ≤ 60000 ∧ (∀ w ∈ D, w.length ≤ 1000) ∧ H r = some (.lst (ms names)) ∧ names.length ≤ 100 ∧ (∀ w ∈ names, w.length ≤ 1000) ∧ ∀ H', Same H H' → Q (.int (sizeN T D b names)) H'
def spGreat : Sp := fun vs H Q _ => ∃ (q : Addr) (m : Nat) (T D : List Str), vs = [.ref q, .int m] ∧ Tab H q D T ∧ D.length ≤ 60000 ∧ T.length ≤ 60000 ∧ (∀ w ∈ D, w.length ≤ 1000) ∧ m ≤ 16 ∧
  ∀ (r : Addr) (L ws : List Str) (H' : Hp), Same H H' → H r = none → L.Perm (D.filter fun w => decide (costV T w < 0)) → L.Pairwise (leK (costV T)) → ws.Perm (L.take m) → sortedS ws = true → H' r = some (.lst (ms ws)) → Q (.ref r) H'
def spRivals : Sp := fun vs H Q _ => ∃ (q : Addr) (m : Nat) (T D : List Str), vs = [.ref q, .int m] ∧ Tab H q D T ∧ D.length ≤ 6 ∧ ∀ r (as : List Addr) H', Same H H' → H r = none → H' r = some (.lst (as.map V.ref)) → as.length ≤ 64 → (∀ a ∈ as, ∃ l, H' a = some (.lst (ms l)) ∧ l.Sublist D ∧ l.length ≤ m) → Q (.ref r) H'
def spToldB (K : PySem.W.Frag) : Sp := fun vs H Q _ => ∃ (p : Addr) (m w : Nat) (zs : List Str), vs = [.ref p, .int m, .int w] ∧ H p = some (.lst (ms zs)) ∧ GoodT zs ∧ zs.length ≤ 300 ∧ m ≤ 16 ∧ (w ≠ 0 → w ≠ 1 → m = 16) ∧
  ∀ x D P ws H', Same H H' → DistOf (words zs) D → BestOf (costV (words zs)) D m P → DistOf P ws → Lot K H' x ws → Q (.ref x) H'
def spLBest (K : PySem.W.Frag) : Sp := fun vs H Q _ => ∃ (p r : Addr) (m w : Nat) (zs rv : List Str), vs = [.ref p, .int m, .int w, .ref r] ∧ H p = some (.lst (ms zs)) ∧ GoodT zs ∧ zs.length ≤ 300 ∧ m ≤ 16 ∧ (w ≠ 0 → w ≠ 1 → m = 16) ∧ H r = some (.lst (ms rv)) ∧ sortedS rv = true ∧ rv.Nodup ∧ rv.length ≤ 20 ∧ (∀ z ∈ rv, isSW z = true) ∧ ∀ H', Same H H' → Q (.bl true) H'
def spPoolB : Sp := fun vs H Q _ => ∃ b : Addr, vs = [.ref b] ∧ Bag H b ∧ ∀ p ws H', Kp b H H' → H p = none → H' p = some (.lst (ms ws)) → 1 ≤ ws.length → ws.length ≤ 30 → (∀ w ∈ ws, LetOk w) → (∃ w ∈ ws, isSW w = true) → Q (.ref p) H'
def spRowsB : Sp := fun vs H Q _ => ∃ (b p : Addr) (ws : List Str), vs = [.ref b, .ref p] ∧ Bag H b ∧ H p = some (.lst (ms ws)) ∧ 1 ≤ ws.length ∧ ws.length ≤ 30 ∧ (∀ w ∈ ws, LetOk w) ∧ ∀ q zs H', Kp b H H' → H q = none → H' q = some (.lst (ms zs)) → GoodT zs → 1 ≤ zs.length → zs.length ≤ 290 → Q (.ref q) H'
theorem tab_at {H H' : Hp} {as : List Addr} {D T : List Str} (la : as.length = D.length) (ht : ∀ (i : Nat) (a : Addr) (w : Str), as[i]? = some a → D[i]? = some w → H a = some (.lst [.str w, .int (cst w : Nat), .int (T.count w : Nat)])) (s : Same H H') {i : Nat} {y : V} (hy : (as.map V.ref)[i]? = some y) :
    ∃ a w, y = .ref a ∧ D[i]? = some w ∧ w ∈ D ∧ i < D.length ∧ D.getD i "" = w ∧ H' a = some (.lst [.str w, .int (cst w : Nat), .int (T.count w : Nat)]) := by
  have hi := (List.getElem?_eq_some_iff.mp hy).1
  rw [List.length_map] at hi
  have hD : i < D.length := by omega
  rw [List.getElem?_map, List.getElem?_eq_getElem hi] at hy
  cases hy
  exact ⟨as[i], D[i], rfl, List.getElem?_eq_getElem hD, List.getElem_mem hD, hD, by rw [List.getD_eq_getElem?_getD, List.getElem?_eq_getElem hD]; rfl, s _ _ (ht i _ _ (List.getElem?_eq_getElem hi) (List.getElem?_eq_getElem hD))⟩
local macro_rules | `(tactic| walk_at "rd") => `(tactic| try simp only [cx_K, tCallK, iKeys, tMethK, tLstRg, tRg1, tRg2, L2.start, List.map_cons, List.map_nil, List.length_cons, List.length_nil, List.cons_append, List.nil_append, List.append_nil, Nat.reduceAdd, Nat.reduceSub, List.replicate, tSeq, tIfS, tTest, tB, tOp, tVar, tC, tAsg, gName, tRet, tRetN, tDrop, tCB, tCons, tNil, rI0, rI, tNext, tNot, tAnd, tOr, tIf, tAndV, tOrV, tNotV, tUn, rU, tDGet, sDPut, tCall, tCallS, tTup, tLst, tSl, tPart, tNoPart, rSlS, tM0, tM1, rIxLt, rIxTt, rIxSt, rLenL, rLenT, rLenS, rIntI, rOrd, rSlLt, tBM, tBM0, rAppend, rExtend, rRep, rCat, rIxQ, rLenQ, rTupQ, rTupL, rMin2, rAnd255, rNonIs, rNonNot, rNeL, rNeT, rEqT, rIns, rPopAt, rSetL, gSub, rExtQ, rSlQ, iList, iTup, iRng1, iRng2, iStr, tFld, sFld, gFld, gTup, tMethT, tMakeT, tCallE, rIntB, rOwnEq, rRepr, rIsI, rLenO, rInO, rNotInO, rBinO, rNeO, rIxO, rListO, rIterT, rSortS, Fx.rInS, rIdxT, rIdxL, rListD, tRevL, tDGet2, rLstQ, Fx.rCntS, rIterTN, iOwn, tDead, rIxF, rLenF, rInF, rIdxF, tBMF, rEqF, rTupF, tMake, tMeth, tChain, tDep, tCallO, tBinT, rSortZ, ipZ, cx_w, rLj, rJn, rIsBl, rNoBl, tRaiseFx, tMkFx, tAug, ipI, tCont, tBreak, gCons, gNil, rLstL, rLstT, rAllL, rAnyL, rMulS, Fx.rIsB, tYes, wipe, rEqL, rEq, rNe, scal, tyv_non, tyv_bl, tyv_int, tyv_str, kb_int_int, kb_int_bool, kb_bool_int, kb_bool_bool, kb_str_str, kb_int_str, kb_bool_str, kb_none_str, kb_list_str, kb_tuple_str, kb_dict_str, kb_tuple_tuple, kb_list_list, List.getElem?_cons_zero, List.getElem?_cons_succ, List.set_cons_zero, List.set_cons_succ, Option.some.injEq, V.int.injEq, V.str.injEq, V.bl.injEq, V.ref.injEq, V.ty.injEq, HO.lst.injEq, HO.tup.injEq, List.cons.injEq, reduceCtorEq, false_and, and_false, or_false, false_or, exists_false, and_true, true_and, exists_and_left, exists_eq_left, exists_eq_left', exists_eq, exists_eq', and_assoc, ite_dec, ite_ndec, upd_same, if_true, Bool.false_eq_true, if_false, Bool.not_true, Bool.not_false])
section
variable {P : Program} {w : World} {K : PySem.W.Frag} {mg : Str → Option Value} {base : Heap}
theorem ok_is_short_word (S : Src K mg "is_short_word" s_is_short_word) (T : Tx P K mg)   : Cal P w K mg base CX0 1 "is_short_word" ["thing"] spShort := by
  refine S.cal sc_is_short_word bn_is_short_word (fun vs H Q E h => ?_) (fun f cdv A outer s H vs Q E hr h => ?_)
  · first | (obtain ⟨rfl, _⟩ := h; rfl) | (obtain ⟨_, rfl, _⟩ := h; rfl) | (obtain ⟨_, _, rfl, _⟩ := h; rfl) | (obtain ⟨_, _, _, rfl, _⟩ := h; rfl) | (obtain ⟨_, _, _, _, rfl, _⟩ := h; rfl) | (obtain ⟨_, _, _, _, _, rfl, _⟩ := h; rfl) | (obtain ⟨_, _, _, _, _, _, rfl, _⟩ := h; rfl) | (obtain ⟨_, _, _, _, _, _, _, rfl, _⟩ := h; rfl) | (obtain ⟨_, _, _, _, _, _, _, _, rfl, _⟩ := h; rfl) | (obtain ⟨_, _, _, _, _, _, _, _, _, rfl, _⟩ := h; rfl)
  · skip
    refine ⟨_, (pss_cons (ps_if (PW.pt (pw_or (pt_not (pt_val (Fx.pe_cB Fx.is_B T.b_isinstance (by decide +kernel) (Fx.pa_c (pv 0) (Fx.pa_c (pe_bltn (v := .ty "str") (by rfl) T.b_str (by decide +kernel) rfl) pa_nil))))) (pw_or1 (pt_not (pt_chain op_le op_le pe_int (Fx.pe_cB Fx.len_S T.b_len (by decide +kernel) (Fx.pa_c (pv 0) pa_nil)) pe_int))))) (pss_one (ps_ret pe_bl)) pss_nil)
        (pss_one (ps_ret (Fx.pe_cB (Fx.all_L rfl) T.b_all (by decide +kernel) (Fx.pa_c (pe_lc (own := [("sign", 1)]) rfl sc_is_short_word.nd (pi_str (pv 0)) (blkOk_by (N := N_is_short_word) (sc := defScope s_is_short_word) (by decide +kernel)) (fun _ _ _ _ _ => (pg_name (i := 1) sc_is_short_word.nd rfl (Or.inl rfl))) (fun _ _ _ _ _ => pts_nil) (fun _ _ _ _ _ => (pe_cmpR op_in_sign (pv 1) (Fx.pe_cst T.c_LETTERS) rfl))) pa_nil))))), ?_⟩
    obtain ⟨v, rfl, h⟩ := h
    refine seqI fun K1 k1 => ?_
    walk_at "rd"
    rcases h with ⟨z, rfl, hz, q⟩ | ⟨t, ht, hk, q⟩
    · refine ⟨_, tyv_str, _, kb_str_str, ?_⟩
      rw [if_neg (by decide)]
      have lz : z.cps.toList.length = z.length := Array.length_toList
      refine ⟨z, rfl, sz (by omega), ite_i (fun h1 => ite_i (fun h2 => ?_) (fun h2 => ?_)) (fun h1 => ?_)⟩
      · refine k1 _ _ ?_
        clear k1
        walk_at "rd"
        refine ⟨.str z, rfl, z, rfl, fun D nD => ?_⟩
        refine lc_S (z := z) (fun i H2 => H2 = upd H D (.lst (((z.cps.toList.take i).map isL).map V.bl))) rfl ?_ ?_
        · rintro i c H2 hc rfl
          refine ⟨rfl, ?_⟩
          walk_at "rd"
          refine ⟨c, rfl, ?_, ?_⟩
          · rw [List.length_map, List.length_map, List.length_take]
            exact Nat.lt_of_lt_of_le (by omega : _ < 2000) (by decide)
          · rw [upd_upd, List.take_add_one, hc]
            simp [isL, letS]
        · rintro H2 rfl
          refine ⟨D, rfl, _, upd_same, ?_⟩
          rw [List.take_length]
          have e1 : ((z.cps.toList.map isL).all id) = isSW z := by
            unfold isSW
            rw [decide_eq_true (by omega : 3 ≤ z.length), decide_eq_true (by omega : z.length ≤ 20), List.all_map]
            rfl
          rw [e1]
          exact q _ (same_new nD)
      · have e : isSW z = false := by
          unfold isSW
          rw [decide_eq_false (by omega : ¬ z.length ≤ 20), Bool.and_false, Bool.false_and]
        rw [e] at q
        exact q H (Same.refl H)
      · have e : isSW z = false := by
          unfold isSW
          rw [decide_eq_false (by omega : ¬ 3 ≤ z.length), Bool.false_and, Bool.false_and]
        rw [e] at q
        exact q H (Same.refl H)
    · refine ⟨t, ht, _, hk, ?_⟩
      rw [if_pos (by decide)]
      exact q
end
section
variable {P : Program} {w : World} {K : PySem.W.Frag} {mg : Str → Option Value} {base : Heap}
theorem ok_Lot_MU_initU {f0 : Addr} {fd : FuncData} (F : FunD K "__init__" "Lot.__init__" (defArgs s_Lot_MU_initU) (defBody s_Lot_MU_initU) (defScope s_Lot_MU_initU) [(.ref (He.dflAt ("Lot", some "__init__") 0 K))] [] f0 fd) (M : Mk K (He.ga K "Lot") f0) (T : Tx P K mg) (C_is_short_word : Cal P w K mg base CX0 1 "is_short_word" ["thing"] spShort)  : CalID P w K mg base (L2.CX P w) 3 (He.ga K "Lot") ["self", "words"] (.ref (He.dflAt ("Lot", some "__init__") 0 K)) (spLot K) := by
  refine calID_of F M 1 rfl bf_Lot_MU_initU bd_Lot_MU_initU (okXD F sc_Lot_MU_initU (fun vs H Q E h => ?_) (fun f cdv A outer s H vs Q E hr h => ?_))
  · first | (obtain ⟨rfl, _⟩ := h; rfl) | (obtain ⟨_, rfl, _⟩ := h; rfl) | (obtain ⟨_, _, rfl, _⟩ := h; rfl) | (obtain ⟨_, _, _, rfl, _⟩ := h; rfl) | (obtain ⟨_, _, _, _, rfl, _⟩ := h; rfl) | (obtain ⟨_, _, _, _, _, rfl, _⟩ := h; rfl) | (obtain ⟨_, _, _, _, _, _, rfl, _⟩ := h; rfl) | (obtain ⟨_, _, _, _, _, _, _, rfl, _⟩ := h; rfl) | (obtain ⟨_, _, _, _, _, _, _, _, rfl, _⟩ := h; rfl) | (obtain ⟨_, _, _, _, _, _, _, _, _, rfl, _⟩ := h; rfl)
  · skip
    refine ⟨_, (pss_cons (ps_for (passes_of rfl) rfl (Fx.pi_Q (pv 1)) (pg_name (i := 2) sc_Lot_MU_initU.nd rfl (Or.inl rfl)) (pss_one (ps_if (pt_not (pt_val (Fx.pe_cal C_is_short_word (hr.mono (by decide)) pass0 (Fx.pa_c (pv 2) pa_nil)))) (pss_one (Fx.ps_raiseFx rfl T.x_BadLot T.g_BadLot T.b_super hr (takes_of rfl rfl rfl rfl) (Fx.pa_c (pv 2) pa_nil))) pss_nil)))
        (pss_cons (ps_fld (pv 0) (Fx.pe_cTy Fx.tup_F T.b_tuple (by decide +kernel) (Fx.pa_c (Fx.pe_cB (Fx.sort_Z rfl) T.b_sorted (by decide +kernel) (Fx.pa_c (Fx.pe_scS (own := [("word", 2)]) rfl sc_Lot_MU_initU.nd (Fx.pi_Q (pv 1)) (blkOk_by (N := N_Lot_MU_initU) (sc := defScope s_Lot_MU_initU) (by decide +kernel)) (fun _ _ _ _ _ => (pg_name (i := 2) sc_Lot_MU_initU.nd rfl (Or.inl rfl))) (fun _ _ _ _ _ => pts_nil) (fun _ _ _ _ _ => (pv 2))) pa_nil)) pa_nil)) rfl)
        (pss_one (ps_if (pt_cmpR op_gt (Fx.pe_cB Fx.len_F T.b_len (by decide +kernel) (Fx.pa_c (Fx.pe_fldK (K := K) rfl (pv 0) rfl) pa_nil)) pe_int (nomark _)) (pss_one (Fx.ps_raiseFx rfl T.x_TooMany T.g_TooMany T.b_super hr (takes_of rfl rfl rfl rfl) (Fx.pa_c pe_str pa_nil))) pss_nil)))), ?_⟩
    obtain ⟨x, dx, pw, l, rfl, hx, hS, hl, h⟩ := h
    refine seqI fun K1 k1 => ?_
    refine forA (x := x) (Hb := H) (a := pw) (xs := l) hx rfl hS (fun i σ H' => ∃ (v2 : Option V) (zs : List Str), σ = [some (.ref x), some (.ref pw), v2] ∧ l.take i = ms zs ∧ (∀ z ∈ zs, isSW z = true) ∧ Same H H') ⟨none, [], rfl, rfl, fun z h => (by cases h), Same.refl _⟩ (fun i σ H' ⟨_, _, _, _, _, s⟩ => .of s) ?_ ?_
    · rintro i y σ H1 hy ⟨v2, zs, rfl, hz, hw, s1⟩
      clear k1
      walk_at "rd"
      refine ⟨y, rfl, ?_⟩
      have good : ∀ z, y = .str z → isSW z = true → ∀ H', Same H1 H' → ∃ x : List Str, List.take (i + 1) l = ms x ∧ (∀ (z : Str), z ∈ x → isSW z = true) ∧ Same H H' := by
        rintro z rfl gz H' s'
        refine ⟨zs ++ [z], ?_, ?_, s1.trans s'⟩
        · rw [List.take_add_one, hy, hz]
          simp [ms]
        · intro a ha
          rcases List.mem_append.mp ha with ha | ha
          · exact hw a ha
          · rw [List.mem_singleton.mp ha]
            exact gz
      rcases h with ⟨w, fb, q⟩ | ⟨zs0, rfl, hw0, q⟩
      · rcases fb.at hz hw hy with ⟨z, rfl, gz⟩ | ⟨rfl, bz⟩
        · have := isSW_len gz
          refine .inl ⟨z, rfl, by omega, fun H' s' => ⟨_, rfl, ?_⟩⟩
          rw [gz, if_neg (by decide)]
          exact good z rfl gz H' s'
        · rcases bz.same s1 with ⟨z, rfl, lz, bz⟩ | ⟨t, ht, hk⟩
          · refine .inl ⟨z, rfl, lz, fun H' s' => ⟨_, rfl, ?_⟩⟩
            rw [bz, if_pos (by decide)]
            exact fun d nd => q d _ (.of ((s1.trans s').trans (same_new nd))) ((s1.trans s').free nd) upd_same
          · refine .inr ⟨t, ht, hk, _, rfl, ?_⟩
            rw [if_pos (by decide)]
            exact fun d nd => q d _ (.of (s1.trans (same_new nd))) (s1.free nd) upd_same
      · obtain ⟨z, hz0, rfl⟩ := List.mem_map.mp (List.mem_of_getElem? hy)
        have gz := hw0 z hz0
        have := isSW_len gz
        refine .inl ⟨z, rfl, by omega, fun H' s' => ⟨_, rfl, ?_⟩⟩
        rw [gz, if_neg (by decide)]
        exact good z rfl gz H' s'
    rintro σ H1 ⟨v2, zs, rfl, hz, hw, s1⟩
    refine k1 _ _ ?_
    clear k1
    rw [List.take_length] at hz
    rcases h with ⟨w, fb, q⟩ | ⟨zs0, el, hw0, q⟩
    · exact (fb.no hz hw).elim
    have ez : zs0 = zs := ms_inj.mp (el.symm.trans hz)
    subst ez
    clear hz hw0
    subst el
    refine seqI fun K1 k1 => ?_
    walk_at "rd"
    have lz : zs0.length ≤ 500 := by
      rw [List.length_map] at hl
      exact hl
    refine sc_Q (a := pw) (xs := ms zs0) rfl (hS.same s1) (fun i D H' => ∃ L, H' D = some (SetSO w D L) ∧ L.length ≤ i ∧ L.Nodup ∧ (∀ f, f ∈ L ↔ f ∈ zs0.take i) ∧ Same H1 H' ∧ H1 D = none) ?_ ?_ ?_ ?_
    · rintro i D H' ⟨L, _, _, _, _, s, _⟩
      refine ⟨fun h => s.seq h, fun h => ?_⟩
      rcases h with (h | ⟨o, h⟩) | h
      · exact .inl (.inl (s _ _ h))
      · exact .inl (.inr ⟨o, s _ _ h⟩)
      · exact .inr h
    · intro D nD
      exact ⟨[], upd_same, Nat.le_refl _, .nil, fun f => by simp, same_new nD, nD⟩
    · rintro i D y H' hy ⟨L, hD, lL, nd, hm, s2, nD⟩
      have hi := (List.getElem?_eq_some_iff.mp hy).1
      rw [List.length_map] at hi
      rw [List.getElem?_map, List.getElem?_eq_getElem hi] at hy
      have ey : y = .str zs0[i] := (Option.some.inj hy).symm
      subst ey
      refine ⟨rfl, ?_⟩
      walk_at "rd"
      have lp := len_plus L zs0[i]
      refine ⟨L, hD, Nat.lt_of_lt_of_le (by omega : _ < 1000) (by decide), _, rfl, by omega, nodup_plus nd, fun f => ?_, Same.put s2 nD, nD⟩
      rw [mem_plus, hm f, List.take_add_one, List.getElem?_eq_getElem hi, List.mem_append]
      simp
    rintro D H2 ⟨L, hD, lL, nd, hm, s2, _⟩
    rw [List.length_map, List.take_of_length_le (Nat.le_refl _)] at hm
    refine ⟨D, rfl, L, hD, fun ys p perm _ so np l1 H3 nl1 s3 f3 => ?_⟩
    have sA : Same H H3 := ((s1.trans s2).trans (same_new np)).trans s3
    have dws : DistOf zs0 ys := ⟨so, perm.nodup_iff.mpr nd, fun f => by rw [perm.mem_iff, hm f]⟩
    obtain ⟨q1, q2⟩ := q ys dws
    refine ⟨_, _, _, sA _ _ hx, T.cl_Lot, T.n_Lot_words, (show 0 < 1000 by decide), k1 _ _ ?_⟩
    clear k1
    have hx4 : (upd H3 x (.ins (He.ga K "Lot") dx (putF "words" (.ref l1) []))) x = some (.ins (He.ga K "Lot") dx [("words", .ref l1)]) := upd_same
    have f4 : FT (upd H3 x (.ins (He.ga K "Lot") dx (putF "words" (.ref l1) []))) l1 (ms ys) := by
      obtain ⟨ob, h1, h2⟩ := f3
      exact ⟨ob, by rw [upd_ne (ne_of h1 (sA _ _ hx) (by intro z; cases z))]; exact h1, h2⟩
    have k4 : Kx x H (upd H3 x (.ins (He.ga K "Lot") dx (putF "words" (.ref l1) []))) := fun a o na e => by
      rw [upd_ne na]
      exact sA _ _ e
    generalize upd H3 x (.ins (He.ga K "Lot") dx (putF "words" (.ref l1) [])) = H4 at hx4 f4 k4
    walk_at "rd"
    refine ⟨_, _, _, hx4, T.cl_Lot, T.n_Lot_words, _, rfl, l1, rfl, _, f4, ite_i (fun hg => ?_) (fun hg => ?_)⟩
    · rw [List.length_map] at hg
      exact fun d nd => q2 (by omega) d _ (k4.trans (.of (same_new nd))) (k4.free hx4 nd) upd_same
    · rw [List.length_map] at hg
      have l16 : ys.length ≤ 16 := by omega
      exact q1 l16 H4 k4 ⟨⟨so, dws.2.1, fun z hz => hw z ((dws.2.2 z).mp hz), l16⟩, dx, l1, hx4, f4⟩
end
section
variable {P : Program} {w : World} {K : PySem.W.Frag} {mg : Str → Option Value} {base : Heap}
theorem ok_Lot_MU_iterU {f0 : Addr} {fd : FuncData} (F : FunD K "__iter__" "Lot.__iter__" (defArgs s_Lot_MU_iterU) (defBody s_Lot_MU_iterU) (defScope s_Lot_MU_iterU) [] [] f0 fd) (M : Meth K (He.ga K "Lot") "__iter__" f0) (T : Tx P K mg)   : CalM P w K mg base CX0 1 (He.ga K "Lot") "__iter__" ["self"] (spTIter K) := by
  refine ⟨f0, fd, M, F.bindsN bn_Lot_MU_iterU, ok0 F sc_Lot_MU_iterU (fun vs H Q E h => ?_) (fun f cdv A outer s H vs Q E hr h => ?_)⟩
  · first | (obtain ⟨rfl, _⟩ := h; rfl) | (obtain ⟨_, rfl, _⟩ := h; rfl) | (obtain ⟨_, _, rfl, _⟩ := h; rfl) | (obtain ⟨_, _, _, rfl, _⟩ := h; rfl) | (obtain ⟨_, _, _, _, rfl, _⟩ := h; rfl) | (obtain ⟨_, _, _, _, _, rfl, _⟩ := h; rfl) | (obtain ⟨_, _, _, _, _, _, rfl, _⟩ := h; rfl) | (obtain ⟨_, _, _, _, _, _, _, rfl, _⟩ := h; rfl) | (obtain ⟨_, _, _, _, _, _, _, _, rfl, _⟩ := h; rfl) | (obtain ⟨_, _, _, _, _, _, _, _, _, rfl, _⟩ := h; rfl)
  · skip
    refine ⟨_, (pss_one (ps_ret (Fx.pe_cB Fx.iter_T T.b_iter (by decide +kernel) (Fx.pa_c (Fx.pe_fldK (K := K) rfl (pv 0) rfl) pa_nil)))), ?_⟩
    obtain ⟨x, ws, rfl, ⟨ok, dx, p, hx, hp⟩, q⟩ := h
    walk_at "rd"
    exact ⟨_, _, _, hx, T.cl_Lot, T.n_Lot_words, _, rfl, p, rfl, _, hp, fun it ni => q it p hp ni⟩
end
section
variable {P : Program} {w : World} {K : PySem.W.Frag} {mg : Str → Option Value} {base : Heap}
theorem ok_Lot_MU_lenU {f0 : Addr} {fd : FuncData} (F : FunD K "__len__" "Lot.__len__" (defArgs s_Lot_MU_lenU) (defBody s_Lot_MU_lenU) (defScope s_Lot_MU_lenU) [] [] f0 fd) (M : Meth K (He.ga K "Lot") "__len__" f0) (T : Tx P K mg)   : CalM P w K mg base CX0 1 (He.ga K "Lot") "__len__" ["self"] (spTLen K) := by
  refine ⟨f0, fd, M, F.bindsN bn_Lot_MU_lenU, ok0 F sc_Lot_MU_lenU (fun vs H Q E h => ?_) (fun f cdv A outer s H vs Q E hr h => ?_)⟩
  · first | (obtain ⟨rfl, _⟩ := h; rfl) | (obtain ⟨_, rfl, _⟩ := h; rfl) | (obtain ⟨_, _, rfl, _⟩ := h; rfl) | (obtain ⟨_, _, _, rfl, _⟩ := h; rfl) | (obtain ⟨_, _, _, _, rfl, _⟩ := h; rfl) | (obtain ⟨_, _, _, _, _, rfl, _⟩ := h; rfl) | (obtain ⟨_, _, _, _, _, _, rfl, _⟩ := h; rfl) | (obtain ⟨_, _, _, _, _, _, _, rfl, _⟩ := h; rfl) | (obtain ⟨_, _, _, _, _, _, _, _, rfl, _⟩ := h; rfl) | (obtain ⟨_, _, _, _, _, _, _, _, _, rfl, _⟩ := h; rfl)
  · skip
    refine ⟨_, (pss_one (ps_ret (Fx.pe_cB Fx.len_F T.b_len (by decide +kernel) (Fx.pa_c (Fx.pe_fldK (K := K) rfl (pv 0) rfl) pa_nil)))), ?_⟩
    obtain ⟨x, ws, rfl, ⟨ok, dx, p, hx, hp⟩, q⟩ := h
    walk_at "rd"
    refine ⟨_, _, _, hx, T.cl_Lot, T.n_Lot_words, _, rfl, p, rfl, _, hp, ?_⟩
    rw [List.length_map]
    exact q
end
section
variable {P : Program} {w : World} {K : PySem.W.Frag} {mg : Str → Option Value} {base : Heap}
theorem ok_pieces (S : Src K mg "pieces" s_pieces) (T : Tx P K mg)   : Cal P w K mg base CX0 1 "pieces" ["text"] spPieces := by
  refine S.cal sc_pieces bn_pieces (fun vs H Q E h => ?_) (fun f cdv A outer s H vs Q E hr h => ?_)
  · first | (obtain ⟨rfl, _⟩ := h; rfl) | (obtain ⟨_, rfl, _⟩ := h; rfl) | (obtain ⟨_, _, rfl, _⟩ := h; rfl) | (obtain ⟨_, _, _, rfl, _⟩ := h; rfl) | (obtain ⟨_, _, _, _, rfl, _⟩ := h; rfl) | (obtain ⟨_, _, _, _, _, rfl, _⟩ := h; rfl) | (obtain ⟨_, _, _, _, _, _, rfl, _⟩ := h; rfl) | (obtain ⟨_, _, _, _, _, _, _, rfl, _⟩ := h; rfl) | (obtain ⟨_, _, _, _, _, _, _, _, rfl, _⟩ := h; rfl) | (obtain ⟨_, _, _, _, _, _, _, _, _, rfl, _⟩ := h; rfl)
  · skip
    refine ⟨_, (pss_cons (ps_set (i := 1) sc_pieces.nd rfl (Or.inl rfl) (pe_lst pa_nil))
        (pss_cons (ps_set (i := 2) sc_pieces.nd rfl (Or.inl rfl) pe_str)
        (pss_cons (ps_for PassesOwn.never rfl (pi_str (pv 0)) (pg_name (i := 3) sc_pieces.nd rfl (Or.inl rfl)) (pss_cons (ps_if (pt_cmpR op_in_sign (pv 3) (Fx.pe_cst T.c_LETTERS) rfl) (pss_cons (ps_aug (i := 2) sc_pieces.nd rfl (Or.inl rfl) (pv 3) Fx.ip_addZ)
        (pss_one ps_continue)) pss_nil)
        (pss_cons (ps_if (pt_truth (pv 2) (by intro _; rfl)) (pss_cons (ps_expr (pe_bm PySem.F.plainAttrs_list PySem.F.slot_list_append PySem.F.type_list_append mt_append (pv 1) (Fx.pa_c (pv 2) pa_nil)))
        (pss_one (ps_set (i := 2) sc_pieces.nd rfl (Or.inl rfl) pe_str))) pss_nil)
        (pss_one (ps_expr (pe_bm PySem.F.plainAttrs_list PySem.F.slot_list_append PySem.F.type_list_append mt_append (pv 1) (Fx.pa_c (pv 3) pa_nil)))))))
        (pss_cons (ps_if (pt_truth (pv 2) (by intro _; rfl)) (pss_one (ps_expr (pe_bm PySem.F.plainAttrs_list PySem.F.slot_list_append PySem.F.type_list_append mt_append (pv 1) (Fx.pa_c (pv 2) pa_nil)))) pss_nil)
        (pss_one (ps_ret (pv 1))))))), ?_⟩
    obtain ⟨z, rfl, hz, q⟩ := h
    have lz : z.cps.toList.length = z.length := Array.length_toList
    refine seqI fun K1 k1 => ?_
    walk_at "rd"
    refine ⟨by decide, ?_⟩
    intro pr nr
    generalize e_pr : upd H pr _ = H1
    have s1 := new_s nr e_pr
    have hr := new_h e_pr
    clear e_pr
    refine k1 _ _ ?_
    clear k1
    refine seqI fun K1 k1 => ?_
    walk_at "rd"
    refine k1 _ _ ?_
    clear k1
    refine seqI fun K1 k1 => ?_
    refine ⟨.str z, rfl, z, rfl, for_S (z := z) (fun i σ H' => ∃ (run : List Nat) (v3 : Option V) (out : List Str), σ = [some (.str z), some (.ref pr), some (.str (mkS run)), v3] ∧ H' pr = some (.lst (ms out)) ∧ out ++ pg run (z.cps.toList.drop i) = pieces z ∧ run.length + out.length ≤ i ∧ Same H H') ⟨[], none, [], rfl, hr, rfl, Nat.le_refl _, s1⟩ ?_ ?_⟩
    · rintro i c σ H2 hc ⟨run, v3, out, rfl, hr2, ho, lr, s2⟩
      clear k1
      have hi := (List.getElem?_eq_some_iff.mp hc).1
      have ed : z.cps.toList.drop i = c :: z.cps.toList.drop (i + 1) := by
        obtain ⟨hlt, e⟩ := List.getElem?_eq_some_iff.mp hc
        rw [List.drop_eq_getElem_cons hlt, e]
      rw [ed] at ho
      walk_at "rd"
      have lm := mkS_len run
      refine ⟨c, rfl, ite_i (fun h1 => ?_) (fun h1 => ⟨_, ⟨sz (by omega), rfl⟩, ?_⟩)⟩
      · rw [pg_let (decide_eq_true h1)] at ho
        refine ⟨?_, run ++ [c], mkS_app run [c], out, hr2, ho, ?_, s2⟩
        · show (mkS run).length + 1 ≤ _
          exact sz (by omega)
        · rw [List.length_append]
          show run.length + 1 + out.length ≤ _
          omega
      · rw [pg_non (decide_eq_false h1)] at ho
        have lo1 : (ms out).length < 5000 := by rw [List.length_map]; omega
        by_cases e : run = []
        · subst e
          rw [if_neg (by decide)]
          refine ⟨tyL hr2, _, hr2, Nat.lt_of_lt_of_le lo1 (by decide), [], rfl, out ++ [S1 c], by simp [ms], ?_, ?_, Same.put s2 nr⟩
          · rw [← ho]
            simp [runS]
          · rw [List.length_append]
            show 0 + (out.length + 1) ≤ _
            omega
        · have ep : 0 < run.length := List.length_pos_iff.mpr e
          rw [if_pos (by rw [lm]; simpa using e)]
          refine ⟨tyL hr2, _, hr2, Nat.lt_of_lt_of_le lo1 (by decide), tyL upd_same, ?_, [], rfl, out ++ [mkS run, S1 c], by simp [ms], ?_, ?_, ?_⟩
          · rw [List.length_append]
            exact Nat.lt_of_lt_of_le (show (ms out).length + 1 < 6000 by omega) (by decide)
          · rw [← ho, runS, if_neg e]
            simp
          · rw [List.length_append]
            show 0 + (out.length + 2) ≤ _
            omega
          · exact Same.put (Same.put s2 nr) nr
    rintro σ H2 ⟨run, v3, out, rfl, hr2, ho, lr, s2⟩
    refine k1 _ _ ?_
    clear k1
    rw [List.drop_length] at ho
    refine seqI fun K1 k1 => ?_
    refine ifI fun A B ka kb => ?_
    walk_at "rd"
    have lm := mkS_len run
    refine ⟨_, ⟨sz (by omega), rfl⟩, ite_i (fun h1 => ka _ ?_) (fun h1 => kb _ ?_)⟩
    · walk_at "rd"
      refine ⟨tyL hr2, _, hr2, ?_, k1 _ _ ?_⟩
      · rw [List.length_map]
        exact Nat.lt_of_lt_of_le (by omega : _ < 2000) (by decide)
      walk_at "rd"
      have e : run ≠ [] := fun e => by rw [lm, e] at h1; exact absurd h1 (by decide)
      refine q _ _ (Same.put s2 nr) nr ?_
      rw [upd_same, ← ho, pg, runS, if_neg e]
      simp [ms]
    · walk_at "rd"
      refine k1 _ _ ?_
      clear k1
      walk_at "rd"
      have e : run = [] := by
        cases run with
        | nil => rfl
        | cons a b => exact absurd (by rw [lm]; simp; omega) h1
      subst e
      refine q _ _ s2 nr ?_
      rw [hr2, ← ho]
      simp [pg, runS]
end
section
variable {P : Program} {w : World} {K : PySem.W.Frag} {mg : Str → Option Value} {base : Heap}
theorem ok_codes (S : Src K mg "codes" s_codes) (T : Tx P K mg)   : Cal P w K mg base CX0 1 "codes" ["sign"] spCodes := by
  refine S.cal sc_codes bn_codes (fun vs H Q E h => ?_) (fun f cdv A outer s H vs Q E hr h => ?_)
  · first | (obtain ⟨rfl, _⟩ := h; rfl) | (obtain ⟨_, rfl, _⟩ := h; rfl) | (obtain ⟨_, _, rfl, _⟩ := h; rfl) | (obtain ⟨_, _, _, rfl, _⟩ := h; rfl) | (obtain ⟨_, _, _, _, rfl, _⟩ := h; rfl) | (obtain ⟨_, _, _, _, _, rfl, _⟩ := h; rfl) | (obtain ⟨_, _, _, _, _, _, rfl, _⟩ := h; rfl) | (obtain ⟨_, _, _, _, _, _, _, rfl, _⟩ := h; rfl) | (obtain ⟨_, _, _, _, _, _, _, _, rfl, _⟩ := h; rfl) | (obtain ⟨_, _, _, _, _, _, _, _, _, rfl, _⟩ := h; rfl)
  · skip
    refine ⟨_, (pss_cons (ps_set (i := 1) sc_codes.nd rfl (Or.inl rfl) (pe_m1 PySem.F.slot_str_find PySem.F.type_str_find mt_find (Fx.pe_cst T.c_ROW1) (pv 0)))
        (pss_cons (ps_if (pt_cmpR op_ge (pv 1) pe_int (nomark _)) (pss_one (ps_ret (pe_tup (Fx.pa_c (pv 1) pa_nil)))) pss_nil)
        (pss_cons (ps_set (i := 1) sc_codes.nd rfl (Or.inl rfl) (pe_m1 PySem.F.slot_str_find PySem.F.type_str_find mt_find (Fx.pe_cst T.c_ROW2) (pv 0)))
        (pss_cons (ps_if (pt_cmpR op_ge (pv 1) pe_int (nomark _)) (pss_one (ps_ret (pe_tup (Fx.pa_c pe_int (Fx.pa_c (pv 1) pa_nil))))) pss_nil)
        (pss_cons (ps_set (i := 1) sc_codes.nd rfl (Or.inl rfl) (pe_m1 PySem.F.slot_str_find PySem.F.type_str_find mt_find (Fx.pe_cst T.c_ROW3) (pv 0)))
        (pss_cons (ps_if (pt_cmpR op_ge (pv 1) pe_int (nomark _)) (pss_one (ps_ret (pe_tup (Fx.pa_c pe_int (Fx.pa_c (pv 1) pa_nil))))) pss_nil)
        (pss_one (ps_ret (pe_tup (Fx.pa_c pe_int (Fx.pa_c (pe_op op_fdiv (Fx.pe_cB Fx.ord_S T.b_ord (by decide +kernel) (Fx.pa_c (pv 0) pa_nil)) pe_int) (Fx.pa_c (pe_op op_andM (Fx.pe_cB Fx.ord_S T.b_ord (by decide +kernel) (Fx.pa_c (pv 0) pa_nil)) pe_int) pa_nil)))))))))))), ?_⟩
    obtain ⟨c, rfl, q⟩ := h
    walk_at "rd"
    have fin : ∀ (p : Addr) (xs : List V), xs = (codeL c).map V.int → H p = none → Q (.ref p) (upd H p (.tup xs)) := fun p xs e np => q p _ (same_new np) np (by rw [upd_same, e])
    refine ite_i (fun h1 => ⟨by decide, fun p np => fin p _ ?_ np⟩) (fun h1 => ite_i (fun h2 => ⟨by decide, fun p np => fin p _ ?_ np⟩) (fun h2 => ite_i (fun h3 => ⟨by decide, fun p np => fin p _ ?_ np⟩) (fun h3 => ⟨rfl, ⟨by decide, by decide⟩, rfl, 4, by decide, by decide, fun p np => fin p _ ?_ np⟩)))
    · unfold codeL
      rw [if_pos (show 0 ≤ Txt.find rowA (S1 c) from h1)]
      rfl
    · unfold codeL
      rw [if_neg (show ¬ 0 ≤ Txt.find rowA (S1 c) from h1), if_pos (show 0 ≤ Txt.find rowB (S1 c) from h2)]
      rfl
    · unfold codeL
      rw [if_neg (show ¬ 0 ≤ Txt.find rowA (S1 c) from h1), if_neg (show ¬ 0 ≤ Txt.find rowB (S1 c) from h2), if_pos (show 0 ≤ Txt.find rowC (S1 c) from h3)]
      rfl
    · unfold codeL
      rw [if_neg (show ¬ 0 ≤ Txt.find rowA (S1 c) from h1), if_neg (show ¬ 0 ≤ Txt.find rowB (S1 c) from h2), if_neg (show ¬ 0 ≤ Txt.find rowC (S1 c) from h3)]
      rfl
end
section
variable {P : Program} {w : World} {K : PySem.W.Frag} {mg : Str → Option Value} {base : Heap}
theorem ok_plain_codes (S : Src K mg "plain_codes" s_plain_codes) (T : Tx P K mg) (C_codes : Cal P w K mg base CX0 1 "codes" ["sign"] spCodes)  : Cal P w K mg base CX0 2 "plain_codes" ["text"] spPlain := by
  refine S.cal sc_plain_codes bn_plain_codes (fun vs H Q E h => ?_) (fun f cdv A outer s H vs Q E hr h => ?_)
  · first | (obtain ⟨rfl, _⟩ := h; rfl) | (obtain ⟨_, rfl, _⟩ := h; rfl) | (obtain ⟨_, _, rfl, _⟩ := h; rfl) | (obtain ⟨_, _, _, rfl, _⟩ := h; rfl) | (obtain ⟨_, _, _, _, rfl, _⟩ := h; rfl) | (obtain ⟨_, _, _, _, _, rfl, _⟩ := h; rfl) | (obtain ⟨_, _, _, _, _, _, rfl, _⟩ := h; rfl) | (obtain ⟨_, _, _, _, _, _, _, rfl, _⟩ := h; rfl) | (obtain ⟨_, _, _, _, _, _, _, _, rfl, _⟩ := h; rfl) | (obtain ⟨_, _, _, _, _, _, _, _, _, rfl, _⟩ := h; rfl)
  · skip
    refine ⟨_, (pss_cons (ps_set (i := 1) sc_plain_codes.nd rfl (Or.inl rfl) (pe_lst pa_nil))
        (pss_cons (ps_for PassesOwn.never rfl (pi_str (pv 0)) (pg_name (i := 2) sc_plain_codes.nd rfl (Or.inl rfl)) (pss_one (ps_expr (pe_bm PySem.F.plainAttrs_list PySem.F.slot_list_extend PySem.F.type_list_extend mt_extQ (pv 1) (Fx.pa_c (Fx.pe_cal C_codes (hr.mono (by decide)) pass0 (Fx.pa_c (pv 2) pa_nil)) pa_nil)))))
        (pss_one (ps_ret (pv 1))))), ?_⟩
    obtain ⟨z, rfl, hz, q⟩ := h
    refine seqI fun K1 k1 => ?_
    walk_at "rd"
    refine ⟨by decide, fun p np => k1 _ _ ?_⟩
    clear k1
    refine seqI fun K1 k1 => ?_
    refine ⟨.str z, rfl, z, rfl, for_S (z := z) (fun i σ H' => ∃ v, σ = [some (.str z), some (.ref p), v] ∧ H' p = some (.lst (mi (((z.cps.toList.take i).map codeL).flatten))) ∧ Same H H') ⟨none, rfl, upd_same, same_new np⟩ ?_ ?_⟩
    · rintro i c σ H' hc ⟨v, rfl, hp, sH⟩
      clear k1
      walk_at "rd"
      refine ⟨tyL hp, c, rfl, fun p1 H1 s1 n1 h1 => ⟨p1, rfl, _, s1 _ _ hp, _, .inr h1, ?_, ?_, Same.put (sH.trans s1) np⟩⟩
      · have l1 := flat_len (z.cps.toList.take i)
        have l2 := codeL_len c
        rw [List.length_take] at l1
        have lz : z.cps.toList.length ≤ 1000 := by rw [Array.length_toList]; exact hz
        rw [mi_len, List.length_map]
        exact sz (by omega)
      · rw [List.take_add_one, hc]
        simp
    · rintro σ H' ⟨v, rfl, hp, sH⟩
      refine k1 _ _ ?_
      walk_at "rd"
      refine q p H' sH np ?_
      rw [hp, List.take_length]
      rfl
end
section
variable {P : Program} {w : World} {K : PySem.W.Frag} {mg : Str → Option Value} {base : Heap}
theorem ok_Lot_M_half_bytes {f0 : Addr} {fd : FuncData} (F : FunD K "half_bytes" "Lot.half_bytes" (defArgs s_Lot_M_half_bytes) (defBody s_Lot_M_half_bytes) (defScope s_Lot_M_half_bytes) [] [] f0 fd) (M : Meth K (He.ga K "Lot") "half_bytes" f0) (T : Tx P K mg) (C_pieces : Cal P w K mg base CX0 1 "pieces" ["text"] spPieces) (C_plain_codes : Cal P w K mg base CX0 2 "plain_codes" ["text"] spPlain)  : CalM P w K mg base CX0 3 (He.ga K "Lot") "half_bytes" ["self", "text"] (spHalf K) := by
  refine ⟨f0, fd, M, F.bindsN bn_Lot_M_half_bytes, ok0 F sc_Lot_M_half_bytes (fun vs H Q E h => ?_) (fun f cdv A outer s H vs Q E hr h => ?_)⟩
  · first | (obtain ⟨rfl, _⟩ := h; rfl) | (obtain ⟨_, rfl, _⟩ := h; rfl) | (obtain ⟨_, _, rfl, _⟩ := h; rfl) | (obtain ⟨_, _, _, rfl, _⟩ := h; rfl) | (obtain ⟨_, _, _, _, rfl, _⟩ := h; rfl) | (obtain ⟨_, _, _, _, _, rfl, _⟩ := h; rfl) | (obtain ⟨_, _, _, _, _, _, rfl, _⟩ := h; rfl) | (obtain ⟨_, _, _, _, _, _, _, rfl, _⟩ := h; rfl) | (obtain ⟨_, _, _, _, _, _, _, _, rfl, _⟩ := h; rfl) | (obtain ⟨_, _, _, _, _, _, _, _, _, rfl, _⟩ := h; rfl)
  · skip
    refine ⟨_, (pss_cons (ps_set (i := 2) sc_Lot_M_half_bytes.nd rfl (Or.inl rfl) (pe_lst pa_nil))
        (pss_cons (ps_for PassesOwn.never rfl (pi_list (Fx.pe_cal C_pieces (hr.mono (by decide)) pass0 (Fx.pa_c (pv 1) pa_nil))) (pg_name (i := 3) sc_Lot_M_half_bytes.nd rfl (Or.inl rfl)) (pss_one (ps_if (pt_cmpR Fx.in_F (pv 3) (Fx.pe_fldK (K := K) rfl (pv 0) rfl) rfl) (pss_one (ps_expr (pe_bm PySem.F.plainAttrs_list PySem.F.slot_list_extend PySem.F.type_list_extend mt_extend (pv 2) (Fx.pa_c (pe_lst (Fx.pa_c pe_int (Fx.pa_c (Fx.pe_bmF PySem.F.slot_tuple_index PySem.F.type_tuple_index Fx.idx_F (Fx.pe_fldK (K := K) rfl (pv 0) rfl) (Fx.pa_c (pv 3) pa_nil)) pa_nil))) pa_nil)))) (pss_one (ps_expr (pe_bm PySem.F.plainAttrs_list PySem.F.slot_list_extend PySem.F.type_list_extend mt_extend (pv 2) (Fx.pa_c (Fx.pe_cal C_plain_codes (hr.mono (by decide)) pass0 (Fx.pa_c (pv 3) pa_nil)) pa_nil)))))))
        (pss_cons (ps_expr (pe_bm PySem.F.plainAttrs_list PySem.F.slot_list_extend PySem.F.type_list_extend mt_extend (pv 2) (Fx.pa_c (pe_lst (Fx.pa_c pe_int (Fx.pa_c pe_int (Fx.pa_c pe_int pa_nil)))) pa_nil)))
        (pss_one (ps_ret (pv 2)))))), ?_⟩
    obtain ⟨x, z, ws, rfl, hL, hz, q⟩ := h
    refine seqI fun K1 k1 => ?_
    walk_at "rd"
    refine ⟨by decide, ?_⟩
    intro pr nr
    generalize e_pr : upd H pr _ = H1
    have s1 := new_s nr e_pr
    have hr := new_h e_pr
    clear e_pr
    refine k1 _ _ ?_
    clear k1
    refine seqI fun K1 k1 => ?_
    refine forI fun R kR => ?_
    walk_at "rd"
    refine ⟨z, rfl, hz, fun pp H2 s2 np hp => ⟨pp, rfl, ⟨_, .inl (.inl hp)⟩, kR _ _ ?_⟩⟩
    clear kR
    have ne : pp ≠ pr := fun e => by rw [e, hr] at np; cases np
    have hr2 := s2 _ _ hr
    have pm := pieces_many z
    refine for_list (K := K) (a := pp) (xs := ms (pieces z)) (fun i σ H' => ∃ v3, σ = [some (.ref x), some (.str z), some (.ref pr), v3] ∧ H' pr = some (.lst (mi (((pieces z).take i).map (half1 ws)).flatten)) ∧ H' pp = some (.lst (ms (pieces z))) ∧ Same H H') ⟨none, rfl, hr2, hp, s1.trans s2⟩ (fun i σ H' _ ⟨_, _, _, e, _⟩ => .inl (.inl e)) ?_ ?_
    · rintro i y σ H3 hy ⟨v3, rfl, h3, hp3, s3⟩
      clear k1
      have hi := (List.getElem?_eq_some_iff.mp hy).1
      rw [List.length_map] at hi
      rw [List.getElem?_map, List.getElem?_eq_getElem hi] at hy
      have ey : y = .str (pieces z)[i] := (Option.some.inj hy).symm
      subst ey
      obtain ⟨p1, p2⟩ := pieces_len (List.getElem_mem hi)
      have tk : List.take (i + 1) (pieces z) = List.take i (pieces z) ++ [(pieces z)[i]] := by
        rw [List.take_add_one, List.getElem?_eq_getElem hi]
        rfl
      have ll : ((((pieces z).take i).map (half1 ws)).flatten).length ≤ 3 * z.length := by
        refine Nat.le_trans (halves_len ws fun p hp => pg_pos _ _ p (List.mem_of_mem_take hp)) ?_
        have := sum_take (pieces z) i
        rw [pieces_sum] at this
        omega
      obtain ⟨ok, dx, p, hx, hw⟩ := hL.same s3
      have put : ∀ (l : List Int) (H4 : Hp), half1 ws (pieces z)[i] = l → Same H3 H4 → (mi ((((pieces z).take i).map (half1 ws)).flatten)).length + (mi l).length ≤ sizeLine ∧ mi ((((pieces z).take i).map (half1 ws)).flatten) ++ mi l = mi (((pieces z).take (i + 1)).map (half1 ws)).flatten ∧ (upd H4 pr (.lst (mi ((((pieces z).take i).map (half1 ws)).flatten) ++ mi l))) pp = some (.lst (ms (pieces z))) ∧ Same H (upd H4 pr (.lst (mi ((((pieces z).take i).map (half1 ws)).flatten) ++ mi l))) := by
        intro l H4 el s4
        refine ⟨?_, ?_, ?_, Same.put (s3.trans s4) nr⟩
        · have := half1_len ws p1
          rw [el] at this
          rw [mi_len, mi_len]
          exact sz (by omega)
        · rw [tk, ← el, List.map_append, List.flatten_append, mi_app]
          simp
        · rw [upd_ne ne]
          exact s4 _ _ hp3
      walk_at "rd"
      refine ⟨_, _, _, hx, T.cl_Lot, T.n_Lot_words, _, rfl, p, rfl, ws, hw, ite_i (fun hm => ?_) (fun hm => ?_)⟩
      · refine ⟨tyL h3, _, _, _, hx, T.cl_Lot, T.n_Lot_words, _, rfl, p, rfl, ⟨_, hw⟩, p, rfl, ws, hw, hm, by decide, ?_⟩
        intro pn nn
        generalize e_pn : upd H3 pn _ = H4
        have s4 := new_s nn e_pn
        have h4 := new_h e_pn
        clear e_pn
        try (first | replace hr := s4 _ _ hr | replace hr := hr.same s4 | replace hr := hr.then s4 | replace hr := hr.trans s4)
        exact ⟨_, s4 _ _ h3, put [14, (ws.idxOf (pieces z)[i] : Nat)] H4 (by rw [half1, if_pos hm]) s4⟩
      · refine ⟨tyL h3, _, rfl, by omega, fun pn H4 s4 nn h4 => ⟨pn, rfl, _, s4 _ _ h3, _, h4, put (clist (pieces z)[i]) H4 (by rw [half1, if_neg hm]) s4⟩⟩
    rintro σ H3 ⟨v3, rfl, h3, hp3, s3⟩
    refine k1 _ _ ?_
    clear k1
    rw [List.length_map, List.take_of_length_le (Nat.le_refl _)] at h3
    refine seqI fun K1 k1 => ?_
    walk_at "rd"
    refine ⟨tyL h3, by decide, ?_⟩
    intro pn nn
    generalize e_pn : upd H3 pn _ = H4
    have s4 := new_s nn e_pn
    have h4 := new_h e_pn
    clear e_pn
    try (first | replace hr := s4 _ _ hr | replace hr := hr.same s4 | replace hr := hr.then s4 | replace hr := hr.trans s4)
    try (first | replace h4 := s4 _ _ h4 | replace h4 := h4.same s4 | replace h4 := h4.then s4 | replace h4 := h4.trans s4)
    have hl := half_len ws z
    unfold half at hl q
    rw [List.length_append] at hl
    refine ⟨_, s4 _ _ h3, ?_, k1 _ _ ?_⟩
    · rw [mi_len]
      exact sz (show _ + 3 ≤ 100000 by have : ([15, 0, 0] : List Int).length = 3 := rfl; omega)
    clear k1
    walk_at "rd"
    refine q _ _ (Same.put (s3.trans s4) nr) nr ?_
    rw [upd_same, mi_app]
    rfl
end
section
variable {P : Program} {w : World} {K : PySem.W.Frag} {mg : Str → Option Value} {base : Heap}
theorem ok_check_text (S : Src K mg "check_text" s_check_text) (T : Tx P K mg)   : Cal P w K mg base (L2.CX P w) 3 "check_text" ["text"] (spCT K) := by
  refine S.calX sc_check_text bn_check_text (fun vs H Q E h => ?_) (fun f cdv A outer s H vs Q E hr h => ?_)
  · first | (obtain ⟨rfl, _⟩ := h; rfl) | (obtain ⟨_, rfl, _⟩ := h; rfl) | (obtain ⟨_, _, rfl, _⟩ := h; rfl) | (obtain ⟨_, _, _, rfl, _⟩ := h; rfl) | (obtain ⟨_, _, _, _, rfl, _⟩ := h; rfl) | (obtain ⟨_, _, _, _, _, rfl, _⟩ := h; rfl) | (obtain ⟨_, _, _, _, _, _, rfl, _⟩ := h; rfl) | (obtain ⟨_, _, _, _, _, _, _, rfl, _⟩ := h; rfl) | (obtain ⟨_, _, _, _, _, _, _, _, rfl, _⟩ := h; rfl) | (obtain ⟨_, _, _, _, _, _, _, _, _, rfl, _⟩ := h; rfl)
  · skip
    refine ⟨_, (pss_cons (ps_if (PW.pt (pw_or (pt_not (pt_val (Fx.pe_cB Fx.is_B T.b_isinstance (by decide +kernel) (Fx.pa_c (pv 0) (Fx.pa_c (pe_bltn (v := .ty "str") (by rfl) T.b_str (by decide +kernel) rfl) pa_nil))))) (pw_or1 (pt_cmpR op_gt (Fx.pe_cB Fx.len_S T.b_len (by decide +kernel) (Fx.pa_c (pv 0) pa_nil)) (Fx.pe_cst T.c_LONGEST) (nomark _))))) (pss_one (Fx.ps_raiseFx rfl T.x_BadText T.g_BadText T.b_super hr (takes_of rfl rfl rfl rfl) (Fx.pa_c (pe_un un_neg pe_int) pa_nil))) pss_nil)
        (pss_one (ps_for (passes_of rfl) rfl (Fx.pi_enumS rfl T.b_enumerate (Fx.pa_c (pv 0) pa_nil)) (pg_tup rfl (pgs_cons (pg_name (i := 1) sc_check_text.nd rfl (Or.inl rfl)) (pgs_cons (pg_name (i := 2) sc_check_text.nd rfl (Or.inl rfl)) pgs_nil))) (pss_one (ps_if (pt_cmpR op_notIn_sign (pv 2) (Fx.pe_cst T.c_SIGNS) rfl) (pss_one (Fx.ps_raiseFx rfl T.x_BadText T.g_BadText T.b_super hr (takes_of rfl rfl rfl rfl) (Fx.pa_c (pv 1) pa_nil))) pss_nil))))), ?_⟩
    obtain ⟨v, r, rfl, hj, qn, qe⟩ := h
    refine seqI fun K1 k1 => ?_
    rcases hj with ⟨z, rfl, hz, rfl⟩ | ⟨t, ht, hk, rfl⟩
    · walk_at "rd"
      refine ⟨sz hz, ite_i (fun hl => fun d nd => qe (-1) ?_ d _ (same_new nd) nd upd_same) (fun hl => k1 _ _ ?_)⟩
      · unfold judge
        rw [if_pos (by omega)]
      · clear k1
        have ej : judge z = firstBad z.cps.toList 0 := by
          unfold judge
          rw [if_neg (by omega)]
        refine ⟨.str z, rfl, z, rfl, for_enumS (z := z) (fun i σ H' => ∃ v1 v2, σ = [some (.str z), v1, v2] ∧ Same H H' ∧ firstBad z.cps.toList 0 = firstBad (z.cps.toList.drop i) i) ⟨none, none, rfl, Same.refl H, rfl⟩ ?_ ?_⟩
        · rintro i c T' σ H' hc ⟨v1, v2, rfl, sH, eb⟩ nT
          have sT := same_new (o := .tup [.int (i : Nat), .str ⟨#[c]⟩]) nT
          refine ⟨T', _, rfl, .inl (.inl upd_same), rfl, _, _, rfl, _, _, rfl, rfl, ?_⟩
          walk_at "rd"
          have hc2 : z.cps.toList[i]? = some c := by rw [Array.getElem?_toList]; exact hc
          have ed : z.cps.toList.drop i = c :: z.cps.toList.drop (i + 1) := by
            obtain ⟨hlt, e⟩ := List.getElem?_eq_some_iff.mp hc2
            rw [List.drop_eq_getElem_cons hlt, e]
          refine ⟨c, rfl, ?_⟩
          walk_at "rd"
          refine ite_i (fun hin => ⟨sH.trans sT, ?_⟩) (fun hin => fun d nd => qe i ?_ d _ ((sH.trans sT).trans (same_new nd)) ((sH.trans sT).free nd) upd_same)
          · rw [eb, ed]
            show (if c ∈ signs1.cps.toList then _ else _) = _
            rw [if_pos (show c ∈ signs1.cps.toList from hin)]
          · rw [ej, eb, ed]
            show (if c ∈ signs1.cps.toList then _ else _) = _
            rw [if_neg (show ¬ c ∈ signs1.cps.toList from hin)]
        · rintro σ H' ⟨v1, v2, rfl, sH, eb⟩
          refine qn ?_ H' sH
          rw [ej, eb, List.drop_of_length_le (by rw [Array.length_toList]; exact Nat.le_refl _)]
          rfl
    · walk_at "rd"
      simp only [ht, hk, Option.some.injEq, exists_eq_left', Bool.not_false, if_true]
      walk_at "rd"
      exact fun d nd => qe (-1) rfl d _ (same_new nd) nd upd_same
end
section
variable {P : Program} {w : World} {K : PySem.W.Frag} {mg : Str → Option Value} {base : Heap}
theorem ok_Lot_M_weight {f0 : Addr} {fd : FuncData} (F : FunD K "weight" "Lot.weight" (defArgs s_Lot_M_weight) (defBody s_Lot_M_weight) (defScope s_Lot_M_weight) [] [] f0 fd) (M : Meth K (He.ga K "Lot") "weight" f0) (T : Tx P K mg) (C_check_text : Cal P w K mg base (L2.CX P w) 3 "check_text" ["text"] (spCT K)) (C_Lot_M_half_bytes : CalM P w K mg base CX0 3 (He.ga K "Lot") "half_bytes" ["self", "text"] (spHalf K))  : CalM P w K mg base (L2.CX P w) 4 (He.ga K "Lot") "weight" ["self", "text"] (spWeight K) := by
  refine ⟨f0, fd, M, F.bindsN bn_Lot_M_weight, okX F sc_Lot_M_weight (fun vs H Q E h => ?_) (fun f cdv A outer s H vs Q E hr h => ?_)⟩
  · first | (obtain ⟨rfl, _⟩ := h; rfl) | (obtain ⟨_, rfl, _⟩ := h; rfl) | (obtain ⟨_, _, rfl, _⟩ := h; rfl) | (obtain ⟨_, _, _, rfl, _⟩ := h; rfl) | (obtain ⟨_, _, _, _, rfl, _⟩ := h; rfl) | (obtain ⟨_, _, _, _, _, rfl, _⟩ := h; rfl) | (obtain ⟨_, _, _, _, _, _, rfl, _⟩ := h; rfl) | (obtain ⟨_, _, _, _, _, _, _, rfl, _⟩ := h; rfl) | (obtain ⟨_, _, _, _, _, _, _, _, rfl, _⟩ := h; rfl) | (obtain ⟨_, _, _, _, _, _, _, _, _, rfl, _⟩ := h; rfl)
  · skip
    obtain ⟨f_Lot_M_half_bytes, fd_Lot_M_half_bytes, m_Lot_M_half_bytes, b_Lot_M_half_bytes, G_Lot_M_half_bytes⟩ := C_Lot_M_half_bytes.ex
    refine ⟨_, (pss_cons (ps_expr (Fx.pe_cal C_check_text (hr.mono (by decide)) (passes_call (takes_of rfl rfl rfl rfl) (fun _ _ _ _ z => z)) (Fx.pa_c (pv 1) pa_nil)))
        (pss_one (ps_ret (Fx.pe_cB Fx.len_L T.b_len (by decide +kernel) (Fx.pa_c (pe_meth (pv 0) T.cl_Lot m_Lot_M_half_bytes G_Lot_M_half_bytes (hr.mono (by decide)) b_Lot_M_half_bytes .nil pass0 (Fx.pa_c (pv 1) pa_nil)) pa_nil))))), ?_⟩
    obtain ⟨x, v, r, ws, rfl, hL, hj, q, qe⟩ := h
    refine seqI fun K1 k1 => ?_
    walk_at "rd"
    refine ⟨v, r, rfl, hj, fun er H1 s1 => k1 _ _ ?_, qe⟩
    clear k1
    obtain ⟨z, rfl, lz⟩ : ∃ z, v = .str z ∧ z.length ≤ 200 := by
      rcases hj with ⟨z, rfl, lz, ej⟩ | ⟨t, ht, hk, ej⟩
      · refine ⟨z, rfl, ?_⟩
        rw [er] at ej
        unfold judge at ej
        split at ej
        · cases ej
        · omega
      · rw [er] at ej
        cases ej
    walk_at "rd"
    obtain ⟨ok, dx, p, hx, hp⟩ := hL.same s1
    refine ⟨dx, _, hx, rfl, x, z, ws, rfl, hL.same s1, by omega, fun p' H2 s2 np hp => ⟨p', rfl, _, hp, ?_⟩⟩
    rw [mi_len]
    exact q er z rfl _ (s1.trans s2)
end
section
variable {P : Program} {w : World} {K : PySem.W.Frag} {mg : Str → Option Value} {base : Heap}
theorem ok_word_cost (S : Src K mg "word_cost" s_word_cost) (T : Tx P K mg) (C_plain_codes : Cal P w K mg base CX0 2 "plain_codes" ["text"] spPlain)  : Cal P w K mg base CX0 3 "word_cost" ["word"] spWCost := by
  refine S.cal sc_word_cost bn_word_cost (fun vs H Q E h => ?_) (fun f cdv A outer s H vs Q E hr h => ?_)
  · first | (obtain ⟨rfl, _⟩ := h; rfl) | (obtain ⟨_, rfl, _⟩ := h; rfl) | (obtain ⟨_, _, rfl, _⟩ := h; rfl) | (obtain ⟨_, _, _, rfl, _⟩ := h; rfl) | (obtain ⟨_, _, _, _, rfl, _⟩ := h; rfl) | (obtain ⟨_, _, _, _, _, rfl, _⟩ := h; rfl) | (obtain ⟨_, _, _, _, _, _, rfl, _⟩ := h; rfl) | (obtain ⟨_, _, _, _, _, _, _, rfl, _⟩ := h; rfl) | (obtain ⟨_, _, _, _, _, _, _, _, rfl, _⟩ := h; rfl) | (obtain ⟨_, _, _, _, _, _, _, _, _, rfl, _⟩ := h; rfl)
  · skip
    refine ⟨_, (pss_one (ps_ret (Fx.pe_cB Fx.len_L T.b_len (by decide +kernel) (Fx.pa_c (Fx.pe_cal C_plain_codes (hr.mono (by decide)) pass0 (Fx.pa_c (pv 0) pa_nil)) pa_nil)))), ?_⟩
    obtain ⟨z, rfl, hz, q⟩ := h
    walk_at "rd"
    refine ⟨z, rfl, hz, fun p H1 s1 np hp => ⟨p, rfl, _, hp, ?_⟩⟩
    rw [mi_len]
    exact q H1 s1
end
section
variable {P : Program} {w : World} {K : PySem.W.Frag} {mg : Str → Option Value} {base : Heap}
theorem ok_check_texts (S : Src K mg "check_texts" s_check_texts) (T : Tx P K mg) (C_check_text : Cal P w K mg base (L2.CX P w) 3 "check_text" ["text"] (spCT K))  : Cal P w K mg base (L2.CX P w) 4 "check_texts" ["texts"] (spCTs K) := by
  refine S.calX sc_check_texts bn_check_texts (fun vs H Q E h => ?_) (fun f cdv A outer s H vs Q E hr h => ?_)
  · first | (obtain ⟨rfl, _⟩ := h; rfl) | (obtain ⟨_, rfl, _⟩ := h; rfl) | (obtain ⟨_, _, rfl, _⟩ := h; rfl) | (obtain ⟨_, _, _, rfl, _⟩ := h; rfl) | (obtain ⟨_, _, _, _, rfl, _⟩ := h; rfl) | (obtain ⟨_, _, _, _, _, rfl, _⟩ := h; rfl) | (obtain ⟨_, _, _, _, _, _, rfl, _⟩ := h; rfl) | (obtain ⟨_, _, _, _, _, _, _, rfl, _⟩ := h; rfl) | (obtain ⟨_, _, _, _, _, _, _, _, rfl, _⟩ := h; rfl) | (obtain ⟨_, _, _, _, _, _, _, _, _, rfl, _⟩ := h; rfl)
  · skip
    refine ⟨_, (pss_one (ps_for (passes_of rfl) rfl (Fx.pi_Q (pv 0)) (pg_name (i := 1) sc_check_texts.nd rfl (Or.inl rfl)) (pss_one (ps_expr (Fx.pe_cal C_check_text (hr.mono (by decide)) (passes_call (takes_of rfl rfl rfl rfl) (fun _ _ _ _ z => z)) (Fx.pa_c (pv 1) pa_nil)))))), ?_⟩
    obtain ⟨p, l, rfl, hS, hl, h⟩ := h
    refine forQ (a := p) (xs := l) rfl hS (fun i σ H' => ∃ v1, σ = [some (.ref p), v1] ∧ (∀ j, j < i → ∃ z, l[j]? = some (.str z) ∧ judge z = none) ∧ Same H H') ⟨none, rfl, fun j h => absurd h (Nat.not_lt_zero _), Same.refl _⟩ (fun i σ H' ⟨_, _, _, s⟩ => s) ?_ ?_
    · rintro i y σ H1 hy ⟨v1, rfl, hj, s1⟩
      walk_at "rd"
      have nxt : ∀ z, y = .str z → judge z = none → ∀ H', Same H1 H' → (∀ j, j < i + 1 → ∃ z, l[j]? = some (.str z) ∧ judge z = none) ∧ Same H H' := fun z ez g H' s => ⟨fun j k => by
        rcases Nat.lt_or_eq_of_le (Nat.le_of_lt_succ k) with k | rfl
        · exact hj j k
        · exact ⟨z, ez ▸ hy, g⟩, s1.trans s⟩
      have txt : ∀ z, y = .str z → judge z = none → spCT K [y] H1 (fun v H' => (∀ j, j < i + 1 → ∃ z, l[j]? = some (.str z) ∧ judge z = none) ∧ Same H H') E := by
        rintro z rfl g
        have := judge_len g
        exact ⟨_, none, rfl, .inl ⟨z, rfl, by omega, g.symm⟩, fun _ H' s => nxt z rfl g H' s, fun i hi => by cases hi⟩
      rcases h with ⟨zs, rfl, hg, q⟩ | ⟨r, hf, q⟩
      · obtain ⟨z, rfl, _, g⟩ := hg.at hy
        exact txt z rfl g
      · rcases (hf.same s1).at hy hj with ⟨z, rfl, g⟩ | jb
        · exact txt z rfl g
        · exact ⟨y, some r, rfl, jb, fun e => by (cases e), fun i hi => by cases hi; exact q.same s1⟩
    rintro σ H1 ⟨v1, rfl, hj, s1⟩
    rcases h with ⟨zs, rfl, hg, q⟩ | ⟨r, hf, q⟩
    · exact q H1 s1
    · exact (hf.no hj).elim
end
section
variable {P : Program} {w : World} {K : PySem.W.Frag} {mg : Str → Option Value} {base : Heap}
theorem ok_counted (S : Src K mg "counted" s_counted) (T : Tx P K mg) (C_check_texts : Cal P w K mg base (L2.CX P w) 4 "check_texts" ["texts"] (spCTs K)) (C_pieces : Cal P w K mg base CX0 1 "pieces" ["text"] spPieces) (C_is_short_word : Cal P w K mg base CX0 1 "is_short_word" ["thing"] spShort)  : Cal P w K mg base (L2.CX P w) 5 "counted" ["texts"] (spCounted K) := by
  refine S.calX sc_counted bn_counted (fun vs H Q E h => ?_) (fun f cdv A outer s H vs Q E hr h => ?_)
  · first | (obtain ⟨rfl, _⟩ := h; rfl) | (obtain ⟨_, rfl, _⟩ := h; rfl) | (obtain ⟨_, _, rfl, _⟩ := h; rfl) | (obtain ⟨_, _, _, rfl, _⟩ := h; rfl) | (obtain ⟨_, _, _, _, rfl, _⟩ := h; rfl) | (obtain ⟨_, _, _, _, _, rfl, _⟩ := h; rfl) | (obtain ⟨_, _, _, _, _, _, rfl, _⟩ := h; rfl) | (obtain ⟨_, _, _, _, _, _, _, rfl, _⟩ := h; rfl) | (obtain ⟨_, _, _, _, _, _, _, _, rfl, _⟩ := h; rfl) | (obtain ⟨_, _, _, _, _, _, _, _, _, rfl, _⟩ := h; rfl)
  · skip
    refine ⟨_, (pss_cons (ps_expr (Fx.pe_cal C_check_texts (hr.mono (by decide)) (passes_call (takes_of rfl rfl rfl rfl) (fun _ _ _ _ z => z)) (Fx.pa_c (pv 0) pa_nil)))
        (pss_cons (ps_set (i := 1) sc_counted.nd rfl (Or.inl rfl) pe_dnewK)
        (pss_cons (ps_for (passes_of rfl) rfl (Fx.pi_Q (pv 0)) (pg_name (i := 2) sc_counted.nd rfl (Or.inl rfl)) (pss_one (ps_for (passes_of rfl) rfl (pi_list (Fx.pe_cal C_pieces (hr.mono (by decide)) pass0 (Fx.pa_c (pv 2) pa_nil))) (pg_name (i := 3) sc_counted.nd rfl (Or.inl rfl)) (pss_one (ps_if (pt_val (Fx.pe_cal C_is_short_word (hr.mono (by decide)) pass0 (Fx.pa_c (pv 3) pa_nil))) (pss_one (ps_dput (hu_of hr) (pv 1) (pv 3) (pe_op op_add (pe_dget2 (hu_of hr) (pv 1) (pv 3) pe_int ⟨rfl, rfl, rfl, rfl⟩) pe_int) rfl)) pss_nil)))))
        (pss_cons (ps_set (i := 4) sc_counted.nd rfl (Or.inl rfl) pe_dnewK)
        (pss_cons (ps_for (passes_of rfl) rfl (pi_list (Fx.pe_cB Fx.sort_S T.b_sorted (by decide +kernel) (Fx.pa_c (Fx.pe_cTy (call_list_dK rfl) T.b_list (by decide +kernel) (Fx.pa_c (pv 1) pa_nil)) pa_nil))) (pg_name (i := 5) sc_counted.nd rfl (Or.inl rfl)) (pss_one (ps_dput (hu_of hr) (pv 4) (pv 5) (pe_dget (hu_of hr) (pv 1) (pv 5) (fun _ _ => rfl)) rfl)))
        (pss_one (ps_ret (pv 4)))))))), ?_⟩
    obtain ⟨p, l, rfl, hS, hl, h⟩ := h
    refine seqI fun K1 k1 => ?_
    rcases h with ⟨zs, rfl, hg, q⟩ | ⟨r, hf, q⟩
    rotate_left
    · walk_at "rd"
      exact ⟨p, l, rfl, hS, hl, .inr ⟨r, hf, q⟩⟩
    walk_at "rd"
    refine ⟨p, ms zs, rfl, hS, hl, .inl ⟨zs, rfl, hg, fun H1 s1 => k1 _ _ ?_⟩⟩
    clear k1
    replace hS := hS.same s1
    refine seqI fun K1 k1 => ?_
    walk_at "rd"
    intro pf nf
    generalize e_pf : upd H1 pf _ = H2
    have s2 := new_s nf e_pf
    have hf := new_h e_pf
    clear e_pf
    refine k1 _ _ ?_
    clear k1
    refine seqI fun K1 k1 => ?_
    have w_add : ∀ (L : List Str) (w : Str) (ks : List Str), ks.Nodup → (∀ f, f ∈ ks ↔ f ∈ L) → (if w ∈ ks then ks else ks ++ [w]).Nodup ∧ ∀ f, f ∈ (if w ∈ ks then ks else ks ++ [w]) ↔ f ∈ L ++ [w] := by
      intro L w ks nd hm
      by_cases h : w ∈ ks
      · rw [if_pos h]
        refine ⟨nd, fun f => ?_⟩
        rw [List.mem_append, List.mem_singleton, ← hm f]
        exact ⟨.inl, fun h2 => h2.elim id fun e => e ▸ h⟩
      · rw [if_neg h]
        refine ⟨List.nodup_append.mpr ⟨nd, by simp, fun a ha b hb e => h (by rw [List.mem_singleton] at hb; rw [← hb, ← e]; exact ha)⟩, fun f => ?_⟩
        rw [List.mem_append, List.mem_append, hm f]
    refine forQ2 (a := p) (xs := ms zs) (Hb := H1) rfl hS (fun i σ H' => ∃ v2 v3 ks, σ = [some (.ref p), some (.ref pf), v2, v3, none, none] ∧ ks.Nodup ∧ (∀ f, f ∈ ks ↔ f ∈ words (zs.take i)) ∧ ks.length ≤ 200 * i ∧ H' pf = some (.dK (tbl (words (zs.take i)) ks)) ∧ Same H1 H') ⟨none, none, [], rfl, .nil, fun f => Iff.rfl, Nat.le_refl _, hf, s2⟩ (fun i σ H' ⟨_, _, _, _, _, _, _, _, s⟩ => s) ?_ ?_
    · rintro i y σ H3 hy ⟨v2, v3, ks, rfl, nd, hm, hk, hd, s3⟩
      clear k1
      obtain ⟨z, rfl, hz, eg, hi, ei⟩ := ms_get hy
      have jz := hg z hz
      have lz := judge_len jz
      have pm := pieces_many z
      have tk : words (zs.take (i + 1)) = words (zs.take i) ++ words1 z := by
        unfold words
        rw [List.take_add_one, ei, List.map_append, List.flatten_append]
        simp
      rw [tk]
      show tFor _ _ _ _ _ _
      refine forI fun R kR => ?_
      walk_at "rd"
      refine ⟨z, rfl, by omega, fun pp H4 s4 np hp => ⟨pp, rfl, ⟨_, .inl (.inl hp)⟩, kR _ _ ?_⟩⟩
      clear kR
      have hi100 : i < 300 := by
        rw [List.length_map] at hl
        omega
      have hw1 := words1_len jz
      refine for_list (K := K) (a := pp) (xs := ms (pieces z)) (fun j σ H' => ∃ v3 ks, σ = [some (.ref p), some (.ref pf), some (.str z), v3, none, none] ∧ ks.Nodup ∧ (∀ f, f ∈ ks ↔ f ∈ words (zs.take i) ++ ((pieces z).take j).filter isSW) ∧ ks.length ≤ 200 * i + j ∧ H' pf = some (.dK (tbl (words (zs.take i) ++ ((pieces z).take j).filter isSW) ks)) ∧ H' pp = some (.lst (ms (pieces z))) ∧ Same H1 H') ⟨v3, ks, rfl, nd, by simpa using hm, hk, by simpa using s4 _ _ hd, hp, s3.trans s4⟩ (fun j σ H' _ ⟨_, _, _, _, _, _, _, e, _⟩ => .inl (.inl e)) ?_ ?_
      · rintro j y σ H5 hy ⟨v3, ks, rfl, nd, hm, hk, hd, hpp, s5⟩
        obtain ⟨w, rfl, hw, eg, hj, ej⟩ := ms_get hy
        obtain ⟨p1, p2⟩ := pieces_len hw
        have tj : ((pieces z).take (j + 1)).filter isSW = ((pieces z).take j).filter isSW ++ (if isSW w = true then [w] else []) := by
          rw [List.take_add_one, ej, List.filter_append]
          by_cases h : isSW w = true
          · rw [if_pos h]
            show _ ++ List.filter isSW [w] = _
            rw [List.filter_cons_of_pos h]
            rfl
          · rw [if_neg h]
            show _ ++ List.filter isSW [w] = _
            rw [List.filter_cons_of_neg h]
            rfl
        rw [tj]
        walk_at "rd"
        refine ⟨_, rfl, .inl ⟨w, rfl, by omega, fun H6 s6 => ⟨_, rfl, ?_⟩⟩⟩
        have hd6 := s6 _ _ hd
        by_cases hsw : isSW w = true
        · rw [if_pos hsw, if_pos hsw, ← List.append_assoc]
          generalize hL : words (zs.take i) ++ ((pieces z).take j).filter isSW = L at hm hd hd6
          obtain ⟨nd2, hm2⟩ := w_add L w ks nd hm
          refine ⟨.inl ⟨_, .inl hd6⟩, _, DGet.k (k := .inr w) hd6, _, getD_tbl hm w, _, DPut.k (k := .inr w) hd6 ?_, _, nd2, hm2, ?_, ?_, ?_, Same.put (s5.trans s6) nf⟩
          · unfold tbl
            rw [List.length_map]
            exact Nat.lt_of_lt_of_le (by omega : _ < 100000) (by decide)
          · split
            · omega
            · rw [List.length_append, List.length_singleton]
              omega
          · rw [upd_same, put_cnt hm w]
          · rw [upd_ne (fun e => by rw [e, hd] at hpp; cases hpp)]
            exact s6 _ _ hpp
        · rw [if_neg hsw, if_neg hsw, List.append_nil]
          exact ⟨ks, nd, hm, by omega, hd6, s6 _ _ hpp, s5.trans s6⟩
      rintro σ H5 ⟨v3, ks, rfl, nd, hm, hk, hd, hpp, s5⟩
      rw [List.length_map] at hk
      rw [List.length_map, List.take_length] at hd hm
      exact ⟨_, _, ks, rfl, nd, hm, by omega, hd, s5⟩
    rintro σ H3 ⟨v2, v3, ks, rfl, nd, hm, hk, hd, s3⟩
    rw [List.length_map] at hk hl
    rw [List.length_map, List.take_length] at hd hm
    refine k1 _ _ ?_
    clear k1
    clear hS s2 hf
    refine seqI fun K1 k1 => ?_
    walk_at "rd"
    have hd0 := hd
    intro pd n4
    generalize e_pd : upd H3 pd _ = H4
    have s4 := new_s n4 e_pd
    have h4 := new_h e_pd
    clear e_pd
    try (first | replace hd := s4 _ _ hd | replace hd := hd.same s4 | replace hd := hd.then s4 | replace hd := hd.trans s4)
    have npd : pf ≠ pd := fun e => by rw [e, n4] at hd0; cases hd0
    refine k1 _ _ ?_
    clear k1
    refine seqI fun K1 k1 => ?_
    refine forI fun R kR => ?_
    walk_at "rd"
    refine ⟨_, hd, ?_⟩
    intro pl n5
    generalize e_pl : upd H4 pl _ = H5
    have s5 := new_s n5 e_pl
    have h5 := new_h e_pl
    clear e_pl
    try (first | replace hd := s5 _ _ hd | replace hd := hd.same s5 | replace hd := hd.then s5 | replace hd := hd.trans s5)
    try (first | replace h4 := s5 _ _ h4 | replace h4 := h4.same s5 | replace h4 := h4.then s5 | replace h4 := h4.trans s5)
    have ek : (tbl (words zs) ks).map (fun kv => kV kv.1) = ms ks := by
      unfold tbl
      rw [List.map_map]
      rfl
    rw [ek] at h5 ⊢
    have nyd : ∀ py, H5 py = none → py ≠ pd := fun py h e => by rw [e, h4] at h; cases h
    refine ⟨ks, rfl, fun ys py perm so ny => ⟨⟨_, .inl (.inl upd_same)⟩, kR _ _ ?_⟩⟩
    clear kR
    have hpd : (upd H5 py (.lst (ms ys))) pd = some (.dK []) := same_new ny _ _ h4
    have hpf : (upd H5 py (.lst (ms ys))) pf = some (.dK (tbl (words zs) ks)) := same_new ny _ _ hd
    have hpy : (upd H5 py (.lst (ms ys))) py = some (.lst (ms ys)) := upd_same
    have sA : Same H1 (upd H5 py (.lst (ms ys))) := (((s3.trans s4).trans s5).trans (same_new ny))
    generalize upd H5 py (.lst (ms ys)) = H6 at hpd hpf hpy sA
    have nd1 : H1 pd = none := s3.free n4
    have ndy : ys.Nodup := perm.nodup_iff.mpr nd
    have my : ∀ f, f ∈ ys ↔ f ∈ words zs := fun f => by rw [perm.mem_iff, hm f]
    have ly : ys.length ≤ 200 * zs.length := by rw [perm.length_eq]; exact hk
    refine for_list (K := K) (a := py) (xs := ms ys) (fun i σ H' => ∃ v5, σ = [some (.ref p), some (.ref pf), v2, v3, some (.ref pd), v5] ∧ H' pd = some (.dK (tbl (words zs) (ys.take i))) ∧ H' pf = some (.dK (tbl (words zs) ks)) ∧ H' py = some (.lst (ms ys)) ∧ Same H1 H') ⟨none, rfl, hpd, hpf, hpy, sA⟩ (fun i σ H' _ ⟨_, _, _, _, e, _⟩ => .inl (.inl e)) ?_ ?_
    · rintro i y σ H7 hy ⟨v5, rfl, hpd, hpf, hpy, s7⟩
      obtain ⟨w, rfl, hw, eg, hi, ei⟩ := ms_get hy
      have hwk : w ∈ ks := perm.mem_iff.mp hw
      have nw : w ∉ ys.take i := fun h => by
        have := ndy
        rw [← List.take_append_drop i ys, List.nodup_append] at this
        refine this.2.2 w h w ?_ rfl
        rw [List.getElem?_eq_getElem hi] at ei
        rw [List.drop_eq_getElem_cons hi, Option.some.inj ei]
        exact List.mem_cons_self
      have ti : tbl (words zs) (ys.take (i + 1)) = tbl (words zs) (ys.take i) ++ [(.inr w, V.int ((words zs).count w : Nat))] := by
        unfold tbl
        rw [List.take_add_one, ei, List.map_append]
        rfl
      rw [ti]
      walk_at "rd"
      have g1 : DGet H7 pf (V.str w) (some (.int ((words zs).count w : Nat))) := by
        have h := DGet.k (k := .inr w) hpf
        rw [valV_tbl, if_pos hwk] at h
        exact h
      refine ⟨_, g1, _, DPut.k (k := .inr w) hpd ?_, ?_, ?_, ?_, Same.put s7 nd1⟩
      · unfold tbl
        rw [List.length_map, List.length_take]
        exact Nat.lt_of_lt_of_le (by omega : _ < 100000) (by decide)
      · rw [upd_same, put_new nw]
      · rw [upd_ne npd]
        exact hpf
      · rw [upd_ne (nyd py ny)]
        exact hpy
    rintro σ H7 ⟨v5, rfl, hpd, hpf, hpy, s7⟩
    refine k1 _ _ ?_
    clear k1
    rw [List.length_map, List.take_length] at hpd
    walk_at "rd"
    exact q pd ys H7 (s1.trans s7) (s1.free nd1) ⟨so, ndy, my⟩ hpd
end
section
variable {P : Program} {w : World} {K : PySem.W.Frag} {mg : Str → Option Value} {base : Heap}
theorem ok_Lot_MU_iterU_N {f0 : Addr} {fd : FuncData} (F : FunD K "__iter__" "Lot.__iter__" (defArgs s_Lot_MU_iterU) (defBody s_Lot_MU_iterU) (defScope s_Lot_MU_iterU) [] [] f0 fd) (M : Meth K (He.ga K "Lot") "__iter__" f0) (T : Tx P K mg)  : CalMN P w K mg base 1 (He.ga K "Lot") "__iter__" ["self"] (spTIterN K) := by
  refine ⟨f0, fd, M, F.bindsN bn_Lot_MU_iterU, fun n => ok0N F sc_Lot_MU_iterU (fun vs H Q E h => ?_) (fun f cdv A outer s H vs Q E hn hr h => ?_)⟩
  · first | (obtain ⟨rfl, _⟩ := h; rfl) | (obtain ⟨_, rfl, _⟩ := h; rfl) | (obtain ⟨_, _, rfl, _⟩ := h; rfl) | (obtain ⟨_, _, _, rfl, _⟩ := h; rfl) | (obtain ⟨_, _, _, _, rfl, _⟩ := h; rfl) | (obtain ⟨_, _, _, _, _, rfl, _⟩ := h; rfl) | (obtain ⟨_, _, _, _, _, _, rfl, _⟩ := h; rfl) | (obtain ⟨_, _, _, _, _, _, _, rfl, _⟩ := h; rfl) | (obtain ⟨_, _, _, _, _, _, _, _, rfl, _⟩ := h; rfl) | (obtain ⟨_, _, _, _, _, _, _, _, _, rfl, _⟩ := h; rfl)
  · skip
    refine ⟨_, (pss_one (ps_ret (Fx.pe_cB Fx.iter_TN T.b_iter (by decide +kernel) (Fx.pa_c (Fx.pe_fldK (K := K) rfl (pv 0) rfl) pa_nil)))), ?_⟩
    obtain ⟨x, ws, rfl, ⟨ok, dx, p, hx, hp⟩, q⟩ := h
    walk_at "rd"
    refine ⟨_, _, _, hx, T.cl_Lot, T.n_Lot_words, _, rfl, p, rfl, _, hp, fun it ni hi => ?_⟩
    exact q it p hp ni (Nat.le_trans hn hi)
end
section
variable {P : Program} {w : World} {K : PySem.W.Frag} {mg : Str → Option Value} {base : Heap}
theorem ok_total (S : Src K mg "total" s_total) (T : Tx P K mg) (C_check_texts : Cal P w K mg base (L2.CX P w) 4 "check_texts" ["texts"] (spCTs K)) (C_Lot_MU_initU : CalID P w K mg base (L2.CX P w) 3 (He.ga K "Lot") ["self", "words"] (.ref (He.dflAt ("Lot", some "__init__") 0 K)) (spLot K)) (C_Lot_M_weight : CalM P w K mg base (L2.CX P w) 4 (He.ga K "Lot") "weight" ["self", "text"] (spWeight K)) (C_Lot_MU_iterU : CalM P w K mg base CX0 1 (He.ga K "Lot") "__iter__" ["self"] (spTIter K)) (C_Lot_MU_iterU_N : CalMN P w K mg base 1 (He.ga K "Lot") "__iter__" ["self"] (spTIterN K))  : Cal P w K mg base (L2.CX P w) 5 "total" ["texts", "lot"] (spTotal K) := by
  refine S.calX sc_total bn_total (fun vs H Q E h => ?_) (fun f cdv A outer s H vs Q E hr h => ?_)
  · first | (obtain ⟨rfl, _⟩ := h; rfl) | (obtain ⟨_, rfl, _⟩ := h; rfl) | (obtain ⟨_, _, rfl, _⟩ := h; rfl) | (obtain ⟨_, _, _, rfl, _⟩ := h; rfl) | (obtain ⟨_, _, _, _, rfl, _⟩ := h; rfl) | (obtain ⟨_, _, _, _, _, rfl, _⟩ := h; rfl) | (obtain ⟨_, _, _, _, _, _, rfl, _⟩ := h; rfl) | (obtain ⟨_, _, _, _, _, _, _, rfl, _⟩ := h; rfl) | (obtain ⟨_, _, _, _, _, _, _, _, rfl, _⟩ := h; rfl) | (obtain ⟨_, _, _, _, _, _, _, _, _, rfl, _⟩ := h; rfl)
  · skip
    obtain ⟨f_Lot_M_weight, fd_Lot_M_weight, m_Lot_M_weight, b_Lot_M_weight, G_Lot_M_weight⟩ := C_Lot_M_weight.ex
    obtain ⟨f_Lot_MU_iterU, fd_Lot_MU_iterU, m_Lot_MU_iterU, b_Lot_MU_iterU, G_Lot_MU_iterU⟩ := C_Lot_MU_iterU.ex
    obtain ⟨f_Lot_MU_iterU_N, fd_Lot_MU_iterU_N, m_Lot_MU_iterU_N, b_Lot_MU_iterU_N, G_Lot_MU_iterU_N⟩ := C_Lot_MU_iterU_N.ex
    refine ⟨_, (pss_cons (ps_expr (Fx.pe_cal C_check_texts (hr.mono (by decide)) (passes_call (takes_of rfl rfl rfl rfl) (fun _ _ _ _ z => z)) (Fx.pa_c (pv 0) pa_nil)))
        (pss_cons (ps_set (i := 2) sc_total.nd rfl (Or.inr rfl) (Fx.pe_mkD0 C_Lot_MU_initU (hr.mono (by decide)) T.g_Lot (passes_call (takes_of rfl rfl rfl rfl) (fun _ _ _ _ z => z))))
        (pss_one (ps_ret (pe_op op_add (Fx.pe_cB (cr_sum rfl) T.b_sum (by decide +kernel) (Fx.pa_c (pe_lc (own := [("text", 3)]) rfl sc_total.nd (Fx.pi_Q (pv 0)) (blkOk_by (N := N_total) (sc := defScope s_total) (by decide +kernel)) (fun _ _ _ _ _ => (pg_name (i := 3) sc_total.nd rfl (Or.inl rfl))) (fun _ _ _ _ _ => pts_nil) (fun _ _ _ _ _ => (pe_meth (pv 1) T.cl_Lot m_Lot_M_weight G_Lot_M_weight (hr.mono (by decide)) b_Lot_M_weight .nil Fx.passX (Fx.pa_c (pv 3) pa_nil)))) pa_nil)) (Fx.pe_cB (cr_sum rfl) T.b_sum (by decide +kernel) (Fx.pa_c (pe_lc (own := [("word", 4)]) rfl sc_total.nd (Fx.pi_O C_Lot_MU_iterU_N (hr.mono (by decide)) (pv 1)) (blkOk_by (N := N_total) (sc := defScope s_total) (by decide +kernel)) (fun _ _ _ _ _ => (pg_name (i := 4) sc_total.nd rfl (Or.inl rfl))) (fun _ _ _ _ _ => pts_nil) (fun _ _ _ _ _ => (pe_meth (pv 2) T.cl_Lot m_Lot_M_weight G_Lot_M_weight (hr.mono (by decide)) b_Lot_M_weight .nil Fx.passX (Fx.pa_c (pv 4) pa_nil)))) pa_nil))))))), ?_⟩
    obtain ⟨p, x, l, ws, rfl, hS, hl, hL, h⟩ := h
    refine seqI fun K1 k1 => ?_
    rcases h with ⟨zs, rfl, hg, q⟩ | ⟨r, hf, q⟩
    rotate_left
    · walk_at "rd"
      exact ⟨p, l, rfl, hS, hl, .inr ⟨r, hf, q⟩⟩
    walk_at "rd"
    refine ⟨p, ms zs, rfl, hS, hl, .inl ⟨zs, rfl, hg, fun H1 s1 => k1 _ _ ?_⟩⟩
    clear k1
    replace hS := hS.same s1
    try (first | replace hL := s1 _ _ hL | replace hL := hL.same s1 | replace hL := hL.then s1 | replace hL := hL.trans s1)
    have hd : ∀ H', SqA K H' (He.dflAt ("Lot", some "__init__") 0 K) (ms []) := by
      obtain ⟨a, ea, h⟩ := tupI_ok T.t_dfl
      cases ea
      exact fun H' => .inr (h H')
    have emp : ∀ {ws : List Str}, DistOf [] ws → ws = [] := fun d => List.eq_nil_iff_forall_not_mem.mpr fun f hf => by
      have := (d.2.2 f).mp hf
      cases this
    refine seqI fun K1 k1 => ?_
    walk_at "rd"
    refine mk_lot (zs := []) (hd _) (by decide) (fun z hz => by cases hz) fun ys hy => ?_
    obtain rfl := emp hy
    refine ⟨fun _ x0 H2 s2 L0 => k1 _ _ ?_, fun h => absurd h (by decide)⟩
    clear k1
    have s12 := s1.trans s2
    replace hS := hS.same s2
    try (first | replace hL := s2 _ _ hL | replace hL := hL.same s2 | replace hL := hL.then s2 | replace hL := hL.trans s2)
    walk_at "rd"
    have eF : ((List.range (ms zs).length).map fun i => [V.int ((half ws (zs.getD i "")).length : Nat)]).flatten = mi (zs.map fun z => ((half ws z).length : Int)) := flat_map1 (fun z => ((half ws z).length : Int)) zs
    refine lcQ (a := p) (xs := ms zs) (fun i => [V.int ((half ws (zs.getD i "")).length : Nat)]) rfl hS ?_ ?_
    · intro D nD i y H3 hy h3
      obtain ⟨z, rfl, hz, eg, hi, ei⟩ := ms_get hy
      obtain ⟨ok, dx, pt, hx, hpt⟩ := id (hL.same h3.1)
      have lz := judge_len (hg z hz)
      walk_at "rd"
      refine ⟨dx, _, hx, rfl, x, .str z, none, ws, rfl, hL.same h3.1, .inl ⟨z, rfl, by omega, (hg z hz).symm⟩, fun _ z' ez H4 s4 => ?_, fun i hi => by cases hi⟩
      cases ez
      exact h3.put nD (fun _ => Nat.le_refl 1) (by rw [List.length_map] at hl; omega) s4 (by rw [eg])
    intro D H3 nD s3 h3
    rw [eF] at h3
    refine ⟨D, _, rfl, .inl (.inl h3), ?_⟩
    try (first | replace L0 := s3 _ _ L0 | replace L0 := L0.same s3 | replace L0 := L0.then s3 | replace L0 := L0.trans s3)
    try (first | replace hL := s3 _ _ hL | replace hL := hL.same s3 | replace hL := hL.then s3 | replace hL := hL.trans s3)
    try (first | replace s12 := s3 _ _ s12 | replace s12 := s12.same s3 | replace s12 := s12.then s3 | replace s12 := s12.trans s3)
    obtain ⟨ok, dx, pt, hx, hpt⟩ := id hL
    walk_at "rd"
    have eF : ((List.range (ms ws).length).map fun i => [V.int ((half [] (ws.getD i "")).length : Nat)]).flatten = mi (ws.map fun z => ((half [] z).length : Int)) := flat_map1 (fun z => ((half [] z).length : Int)) ws
    refine ⟨_, rfl, x, dx, _, rfl, hx, x, ws, rfl, hL, fun it pt2 hp2 nit hn => ⟨it, pt2, rfl, hn, upd_same, ?_⟩⟩
    rw [ItX.dropH_upd nit]
    intro D2 nD2
    refine lcT (xs := ms ws) (fun i => [V.int ((half [] (ws.getD i "")).length : Nat)]) nD2 (fun H s => (hp2.same s).sq) ?_ ?_
    · intro i y H4 hy h4
      obtain ⟨z, rfl, hz, eg, hi, ei⟩ := ms_get hy
      obtain ⟨ok0, d0, pt0, hx0, hpt0⟩ := id (L0.same h4.1)
      have jz := judge_sw (ok.ok z hz)
      have lz := judge_len jz
      have lw := ok.lt
      walk_at "rd"
      refine ⟨d0, _, hx0, rfl, x0, .str z, none, [], rfl, L0.same h4.1, .inl ⟨z, rfl, by omega, jz.symm⟩, fun _ z' ez H5 s5 => ?_, fun i hi => by cases hi⟩
      cases ez
      exact h4.put nD2 (fun _ => Nat.le_refl 1) (by omega) s5 (by rw [eg])
    intro H4 s4 h4
    rw [eF] at h4
    try (first | replace L0 := s4 _ _ L0 | replace L0 := L0.same s4 | replace L0 := L0.then s4 | replace L0 := L0.trans s4)
    try (first | replace hL := s4 _ _ hL | replace hL := hL.same s4 | replace hL := hL.then s4 | replace hL := hL.trans s4)
    try (first | replace s12 := s4 _ _ s12 | replace s12 := s12.same s4 | replace s12 := s12.then s4 | replace s12 := s12.trans s4)
    exact ⟨D2, _, rfl, .inl (.inl h4), _, rfl, q H4 s12⟩
end
section
variable {P : Program} {w : World} {K : PySem.W.Frag} {mg : Str → Option Value} {base : Heap}
theorem ok_gain_of (S : Src K mg "gain_of" s_gain_of) (T : Tx P K mg) (C_word_cost : Cal P w K mg base CX0 3 "word_cost" ["word"] spWCost)  : Cal P w K mg base CX0 4 "gain_of" ["run", "many"] spGain := by
  refine S.cal sc_gain_of bn_gain_of (fun vs H Q E h => ?_) (fun f cdv A outer s H vs Q E hr h => ?_)
  · first | (obtain ⟨rfl, _⟩ := h; rfl) | (obtain ⟨_, rfl, _⟩ := h; rfl) | (obtain ⟨_, _, rfl, _⟩ := h; rfl) | (obtain ⟨_, _, _, rfl, _⟩ := h; rfl) | (obtain ⟨_, _, _, _, rfl, _⟩ := h; rfl) | (obtain ⟨_, _, _, _, _, rfl, _⟩ := h; rfl) | (obtain ⟨_, _, _, _, _, _, rfl, _⟩ := h; rfl) | (obtain ⟨_, _, _, _, _, _, _, rfl, _⟩ := h; rfl) | (obtain ⟨_, _, _, _, _, _, _, _, rfl, _⟩ := h; rfl) | (obtain ⟨_, _, _, _, _, _, _, _, _, rfl, _⟩ := h; rfl)
  · skip
    refine ⟨_, (pss_cons (ps_set (i := 2) sc_gain_of.nd rfl (Or.inl rfl) (Fx.pe_cal C_word_cost (hr.mono (by decide)) pass0 (Fx.pa_c (pv 0) pa_nil)))
        (pss_one (ps_ret (pe_op op_sub (pe_op op_mul (pv 1) (pe_op op_sub (pv 2) pe_int)) (pe_op op_add (pv 2) pe_int))))), ?_⟩
    obtain ⟨z, n, rfl, hz, hn, q⟩ := h
    refine seqI fun K1 k1 => ?_
    walk_at "rd"
    refine ⟨z, rfl, hz, fun H1 s1 => k1 _ _ ?_⟩
    clear k1
    walk_at "rd"
    exact ⟨.inl ⟨by omega, by omega⟩, q H1 s1⟩
end
section
variable {P : Program} {w : World} {K : PySem.W.Frag} {mg : Str → Option Value} {base : Heap}
theorem ok_best_lot (S : SrcD K mg "best_lot" s_best_lot (.int 16)) (T : Tx P K mg) (C_counted : Cal P w K mg base (L2.CX P w) 5 "counted" ["texts"] (spCounted K)) (C_gain_of : Cal P w K mg base CX0 4 "gain_of" ["run", "many"] spGain) (C_Lot_MU_initU : CalID P w K mg base (L2.CX P w) 3 (He.ga K "Lot") ["self", "words"] (.ref (He.dflAt ("Lot", some "__init__") 0 K)) (spLot K))  : CalDK P w K mg base (L2.CX P w) 6 "best_lot" ["texts", "most"] (.int 16) "most" (spBestL K) := by
  refine S.ofK 1 rfl bf_best_lot bd_best_lot bk_best_lot (fun F => okXD F sc_best_lot (fun vs H Q E h => ?_) (fun f cdv A outer s H vs Q E hr h => ?_))
  · first | (obtain ⟨rfl, _⟩ := h; rfl) | (obtain ⟨_, rfl, _⟩ := h; rfl) | (obtain ⟨_, _, rfl, _⟩ := h; rfl) | (obtain ⟨_, _, _, rfl, _⟩ := h; rfl) | (obtain ⟨_, _, _, _, rfl, _⟩ := h; rfl) | (obtain ⟨_, _, _, _, _, rfl, _⟩ := h; rfl) | (obtain ⟨_, _, _, _, _, _, rfl, _⟩ := h; rfl) | (obtain ⟨_, _, _, _, _, _, _, rfl, _⟩ := h; rfl) | (obtain ⟨_, _, _, _, _, _, _, _, rfl, _⟩ := h; rfl) | (obtain ⟨_, _, _, _, _, _, _, _, _, rfl, _⟩ := h; rfl)
  · skip
    refine ⟨_, (pss_cons (ps_set (i := 2) sc_best_lot.nd rfl (Or.inr rfl) (Fx.pe_cal C_counted (hr.mono (by decide)) (passes_call (takes_of rfl rfl rfl rfl) (fun _ _ _ _ z => z)) (Fx.pa_c (pv 0) pa_nil)))
        (pss_cons (ps_lock (ps_set (i := 3) sc_best_lot.nd rfl (Or.inl rfl) (Fx.pe_cB (Fx.sort_D hr.units) T.b_sorted (by decide +kernel) (Fx.pa_c (pe_lc (own := [("run", 4)]) rfl sc_best_lot.nd (pi_keys (pv 2)) (blkOk_by (N := N_best_lot) (sc := defScope s_best_lot) (by decide +kernel)) (fun _ _ _ _ _ => (pg_name (i := 4) sc_best_lot.nd rfl (Or.inl rfl))) (fun _ _ _ _ _ => pts_nil) (fun _ _ _ _ _ => (pe_tup (Fx.pa_c (pe_un un_neg (Fx.pe_cal C_gain_of (hr.mono (by decide)) pass0 (Fx.pa_c (pv 4) (Fx.pa_c (pe_dget (hu_of hr) (pv 2) (pv 4) (fun _ _ => rfl)) pa_nil)))) (Fx.pa_c (pv 4) pa_nil))))) pa_nil))))
        (pss_one (ps_ret (Fx.pe_mk C_Lot_MU_initU.full (hr.mono (by decide)) T.g_Lot (passes_call (takes_of rfl rfl rfl rfl) (fun _ _ _ _ z => z)) (Fx.pa_c (pe_lc (own := [("pair", 5)]) rfl sc_best_lot.nd (pi_list (pe_slice Fx.sl_L (pv 3) po_none (po_some (pv 1)))) (blkOk_by (N := N_best_lot) (sc := defScope s_best_lot) (by decide +kernel)) (fun _ _ _ _ _ => (pg_name (i := 5) sc_best_lot.nd rfl (Or.inl rfl))) (fun _ _ _ _ _ => (pts_one (pt_cmpR op_lt (pe_ix Fx.ix_T (pv 5) pe_int (fun _ _ => rfl)) pe_int (nomark _)))) (fun _ _ _ _ _ => (pe_ix Fx.ix_T (pv 5) pe_int (fun _ _ => rfl)))) pa_nil)))))), ?_⟩
    obtain ⟨p, m, zs, rfl, hS, hg, hl, hm, q⟩ := h
    refine seqI fun K1 k1 => ?_
    walk_at "rd"
    refine ⟨p, ms zs, rfl, hS, by rw [List.length_map]; exact hl, .inl ⟨zs, rfl, hg, fun d D H1 s1 nd dD hd => k1 _ _ ?_⟩⟩
    clear k1
    have sw : ∀ w ∈ D, isSW w = true := fun f hf => by
      obtain ⟨z, _, _, h⟩ := mem_words.mp ((dD.2.2 f).mp hf)
      exact h
    have lW : (words zs).length ≤ 60000 := by
      have := words_len hg zs.length
      rw [List.take_length] at this
      omega
    have lD : D.length ≤ 60000 := by
      have := dist_len dD
      omega
    refine seqI fun K1 k1 => ?_
    refine ⟨d, _, hd, trivial, fun od => ?_⟩
    have nf : ∀ p : Addr, H1 p = none → p ≠ d := fun p np e => by rw [e, hd] at np; cases np
    walk_at "rd"
    have hd1 : (upd H1 d (.frz od (.dK (tbl (words zs) D)))) d = some (.frz od (.dK (tbl (words zs) D))) := upd_same
    generalize eH : upd H1 d (.frz od (.dK (tbl (words zs) D))) = H2 at hd1
    refine ⟨.ref d, rfl, d, od, rfl, .inl ⟨_, hd1, fun D1 nD1 => ?_⟩⟩
    obtain ⟨GB, hGB⟩ : ∃ GB : Nat → Hp → Prop, GB = fun i H' => (∃ as : List Addr, as.length = i ∧ H' D1 = some (.lst (as.map V.ref)) ∧ (∀ (j : Nat) (a : Addr) (w : Str), as[j]? = some a → D[j]? = some w → H' a = some (.tup [.int (costV (words zs) w), .str w]))) ∧ Same H2 H' := ⟨_, rfl⟩
    have GB0 : GB 0 (upd H2 D1 (.lst [])) := by
      rw [hGB]
      exact ⟨⟨[], rfl, upd_same, fun j a w e _ => (by cases e)⟩, same_new nD1⟩
    refine lc_it (walk_keys (d := d) (o := od) (kvs := tbl (words zs) D)) GB GB0 (fun i H' _ h => by rw [hGB] at h; exact h.2 _ _ hd1) ?_ ?_
    · rintro i x H3 H4 hi h ⟨rfl, k, v, hk, rfl⟩
      rw [hGB] at h ⊢
      obtain ⟨⟨as, la, hD1, ht⟩, s3⟩ := h
      rw [tbl, List.length_map] at hi
      have ek : (tbl (words zs) D)[i]? = some (.inr D[i], V.int ((words zs).count D[i] : Nat)) := by
        rw [tbl, List.getElem?_map, List.getElem?_eq_getElem hi]
        rfl
      rw [ek] at hk
      cases hk
      have hw := List.getElem_mem hi
      have lw := isSW_len (sw _ hw)
      refine ⟨rfl, ?_⟩
      walk_at "rd"
      have hd4 : H4 d = some (.frz od (.dK (tbl (words zs) D))) := s3 _ _ hd1
      have cnt : (words zs).count D[i] ≤ 60000 := Nat.le_trans List.count_le_length lW
      refine ⟨_, .inl ⟨_, .inr D[i], .inr ⟨od, hd4⟩, rfl, by rw [valV_tbl, if_pos hw]⟩, D[i], _, rfl, by omega, by omega, fun H5 s5 => ⟨_, rfl, by decide, ?_⟩⟩
      have ec : -((((words zs).count D[i] : Nat) : Int) * ((cst D[i] : Int) - 2) - ((cst D[i] : Int) + 3)) = costV (words zs) D[i] := by
        unfold costV
        omega
      rw [ec]
      replace hD1 := s5 _ _ hD1
      replace s3 := s3.trans s5
      have ht : ∀ (j : Nat) (a : Addr) (w : Str), as[j]? = some a → D[j]? = some w → H5 a = some (.tup [.int (costV (words zs) w), .str w]) := fun j a w e1 e2 => s5 _ _ (ht j a w e1 e2)
      intro q1 n1
      have t1 := same_new (o := .tup [.int (costV (words zs) D[i]), .str D[i]]) n1
      have n1D : q1 ≠ D1 := fun e => by rw [e, hD1] at n1; cases n1
      refine ⟨_, t1 _ _ hD1, ?_, ⟨as ++ [q1], ?_, ?_, ?_⟩, Same.put (s3.trans t1) nD1⟩
      · rw [List.length_map, la]
        exact Nat.lt_of_lt_of_le (by omega : _ < 70000) (by decide)
      · rw [List.length_append, la]
        rfl
      · rw [List.map_append]
        rfl
      · intro j a w e1 e2
        have ne : ∀ a : Addr, (∃ x, H5 a = some (.tup x)) ∨ a = q1 → a ≠ D1 := fun a h => by
          rcases h with ⟨x, h⟩ | rfl
          · exact fun e => by rw [e, hD1] at h; cases h
          · exact n1D
        rcases Nat.lt_or_ge j as.length with hj | hj
        · rw [List.getElem?_append_left hj] at e1
          have := ht j a w e1 e2
          rw [upd_ne (ne a (.inl ⟨_, this⟩))]
          exact t1 _ _ this
        · rw [List.getElem?_append_right hj] at e1
          have hj0 : j - as.length = 0 := by
            have := (List.getElem?_eq_some_iff.mp e1).1
            simp at this
            omega
          rw [hj0] at e1
          have ea : q1 = a := by simpa using e1
          subst ea
          have ej : j = i := by omega
          subst ej
          rw [List.getElem?_eq_getElem hi] at e2
          cases e2
          rw [upd_ne n1D, upd_same]
          rfl
    intro H3 h
    rw [hGB, tbl, List.length_map] at h
    obtain ⟨⟨as, la, hD1, ht⟩, s3⟩ := h
    have enc : ∀ w : Str, PyData := fun w => .tuple [.int (costV (words zs) w), .str w]
    refine ⟨D1, (as.zip D).map fun p => (V.ref p.1, PyData.tuple [.int (costV (words zs) p.2), .str p.2]), rfl, ?_, ?_, ?_, ?_, ?_, fun q1 n1 => ?_⟩
    · rw [List.map_map]
      refine .inl (.inl ?_)
      rw [hD1]
      have : (as.zip D).map ((fun x : V × PyData => x.1) ∘ fun p : Addr × Str => (V.ref p.1, PyData.tuple [.int (costV (words zs) p.2), .str p.2])) = as.map V.ref := by
        have e1 : (as.zip D).map (fun p : Addr × Str => V.ref p.1) = ((as.zip D).map (·.1)).map V.ref := by rw [List.map_map]; rfl
        have e2 : (as.zip D).map (·.1) = as := List.map_fst_zip (by omega)
        exact e1.trans (by rw [e2])
      rw [this]
    · intro x hx
      obtain ⟨⟨a, w⟩, hp, rfl⟩ := List.mem_map.mp hx
      obtain ⟨j, hj⟩ := List.mem_iff_getElem?.mp hp
      have := List.getElem?_zip_eq_some.mp hj
      have e := ht j a w this.1 this.2
      exact .tup (.inl (.inl e)) (.cons (.int _) (.cons (.str _) .nil))
    · intro x hx y hy
      obtain ⟨⟨a, w⟩, _, rfl⟩ := List.mem_map.mp hx
      obtain ⟨⟨a2, w2⟩, _, rfl⟩ := List.mem_map.mp hy
      simp [PySem.W.alike, PySem.W.alikeAll]
    · intro x hx
      obtain ⟨⟨a, w⟩, _, rfl⟩ := List.mem_map.mp hx
      exact ⟨_, _, rfl⟩
    · intro x hx
      obtain ⟨⟨a, w⟩, _, rfl⟩ := List.mem_map.mp hx
      simp [PyData.depth, PyData.depthAll]
    obtain ⟨ps, eps, pp, ord⟩ := sort_is (costV (words zs)) (as.zip D)
    rw [show (as.zip D).map (fun p => (V.ref p.1, PyData.tuple [.int (costV (words zs) p.2), .str p.2])) = (as.zip D).map (encP (costV (words zs))) from rfl, eps, List.map_map]
    have hd3 := s3 _ _ hd1
    have nqd : q1 ≠ d := fun e => by rw [e, hd3] at n1; cases n1
    refine ⟨by rw [upd_ne nqd.symm]; exact hd3, k1 _ _ ?_⟩
    clear k1
    have sF : Same H1 (upd (upd H3 q1 (.lst (ps.map ((fun x : V × PyData => x.1) ∘ encP (costV (words zs)))))) d (.dK (tbl (words zs) D))) := fun a o e => by
      by_cases ea : a = d
      · subst ea
        rw [hd] at e
        rw [upd_same, ← e]
      · rw [upd_ne ea]
        have e2 : H2 a = some o := by rw [← eH, upd_ne ea]; exact e
        exact same_new n1 _ _ (s3 _ _ e2)
    have hg2 : (upd (upd H3 q1 (.lst (ps.map ((fun x : V × PyData => x.1) ∘ encP (costV (words zs)))))) d (.dK (tbl (words zs) D))) q1 = some (.lst (ps.map fun p => V.ref p.1)) := by
      rw [upd_ne nqd, upd_same]
      rfl
    have ht2 : ∀ p ∈ ps, (upd (upd H3 q1 (.lst (ps.map ((fun x : V × PyData => x.1) ∘ encP (costV (words zs)))))) d (.dK (tbl (words zs) D))) p.1 = some (.tup [.int (costV (words zs) p.2), .str p.2]) := fun p hp => by
      obtain ⟨j, hj⟩ := List.mem_iff_getElem?.mp (pp.mem_iff.mp hp)
      have := List.getElem?_zip_eq_some.mp hj
      have e := ht j p.1 p.2 this.1 this.2
      rw [upd_ne (fun k => by rw [k, hd3] at e; cases e)]
      exact same_new n1 _ _ e
    generalize (upd (upd H3 q1 (.lst (ps.map ((fun x : V × PyData => x.1) ∘ encP (costV (words zs)))))) d (.dK (tbl (words zs) D))) = H4 at sF hg2 ht2
    clear eps ht hd3 nqd n1 s3 hD1 nD1 GB0 hGB hd1 eH
    walk_at "rd"
    refine ⟨_, rfl, _, rfl, _, rfl, q1, _, rfl, hg2, fun pc nc => ⟨pc, rfl, ⟨_, .inl (.inl upd_same)⟩, fun D2 nD2 => ?_⟩⟩
    rw [cutV_hi, ← List.map_take] at nD2 ⊢
    have sc := same_new (o := .lst ((ps.take m).map fun p => V.ref p.1)) nc
    have hc : (upd H4 pc (.lst ((ps.take m).map fun p => V.ref p.1))) pc = some (.lst ((ps.take m).map fun p => V.ref p.1)) := upd_same
    have ht3 : ∀ p ∈ ps, (upd H4 pc (.lst ((ps.take m).map fun p => V.ref p.1))) p.1 = some (.tup [.int (costV (words zs) p.2), .str p.2]) := fun p hp => sc _ _ (ht2 p hp)
    replace sF := sF.trans sc
    generalize (upd H4 pc (.lst ((ps.take m).map fun p => V.ref p.1))) = H5 at nD2 sF hc ht3
    clear sc nc hg2 ht2
    have pD : (ps.map (·.2)).Perm D := by
      have := pp.map (·.2)
      rwa [List.map_snd_zip (by omega)] at this
    have eW : (ps.take m).map (·.2) = (ps.map (·.2)).take m := List.map_take
    refine lcL (xs := (ps.take m).map fun p => V.ref p.1) (fun i => if (fun w => decide (costV (words zs) w < 0)) (((ps.take m).map (·.2)).getD i ("" : Str)) = true then [V.str (((ps.take m).map (·.2)).getD i ("" : Str))] else []) nD2 hc ?_ ?_
    · intro i y H6 hy h6
      have hi := (List.getElem?_eq_some_iff.mp hy).1
      rw [List.length_map] at hi
      rw [List.getElem?_map, List.getElem?_eq_getElem hi] at hy
      cases hy
      have hm2 : (ps.take m)[i] ∈ ps := List.mem_of_mem_take (List.getElem_mem hi)
      have e6 := h6.1 _ _ (ht3 _ hm2)
      have eg : ((ps.take m).map (·.2)).getD i ("" : Str) = (ps.take m)[i].2 := by rw [List.getD_eq_getElem?_getD, List.getElem?_map, List.getElem?_eq_getElem hi]; rfl
      rw [List.length_take] at hi
      refine ⟨rfl, ?_⟩
      walk_at "rd"
      refine ⟨_, e6, _, rfl, _, rfl, ite_i (fun g => ?_) (fun g => ?_)⟩
      · refine ⟨_, e6, _, rfl, ?_⟩
        exact h6.put nD2 (fun _ => if_len1) (by omega) (Same.refl _) (by rw [eg]; exact if_pos (decide_eq_true g))
      · exact h6.skip (Same.refl _) (by rw [eg]; exact if_neg (by simpa using g))
    intro H6 s6 h6
    rw [List.length_map, show (ps.take m).length = (ms ((ps.take m).map (·.2))).length by rw [List.length_map, List.length_map], flat_filter (fun w => decide (costV (words zs) w < 0)), eW] at h6
    have inD : ∀ w ∈ ((ps.map (·.2)).take m).filter (fun w => decide (costV (words zs) w < 0)), w ∈ D := fun w hw => pD.mem_iff.mp (List.mem_of_mem_take (List.mem_filter.mp hw).1)
    have lP : (((ps.map (·.2)).take m).filter (fun w => decide (costV (words zs) w < 0))).length ≤ m := by
      refine Nat.le_trans (List.length_filter_le _ _) ?_
      rw [List.length_take]
      omega
    refine mk_lot (.inl (.inl (.inl h6))) (by omega) (fun w hw => sw w (inD w hw)) fun ws dw => ⟨fun _ x H7 s7 L7 => q x D _ ws H7 (s1.trans (sF.trans (s6.trans s7))) dD ⟨⟨_, pD, ord, rfl⟩⟩ dw L7, fun h => ?_⟩
    have := dist_len dw
    omega
end
section
variable {P : Program} {w : World} {K : PySem.W.Frag} {mg : Str → Option Value} {base : Heap}
theorem ok__law_bag (S : Src K mg "_law_bag" s__law_bag) (T : Tx P K mg)   : Cal P w K mg base CX0 1 "_law_bag" ["_law_script"] (spBag K) := by
  refine S.cal sc__law_bag bn__law_bag (fun vs H Q E h => ?_) (fun f cdv A outer s H vs Q E hr h => ?_)
  · first | (obtain ⟨rfl, _⟩ := h; rfl) | (obtain ⟨_, rfl, _⟩ := h; rfl) | (obtain ⟨_, _, rfl, _⟩ := h; rfl) | (obtain ⟨_, _, _, rfl, _⟩ := h; rfl) | (obtain ⟨_, _, _, _, rfl, _⟩ := h; rfl) | (obtain ⟨_, _, _, _, _, rfl, _⟩ := h; rfl) | (obtain ⟨_, _, _, _, _, _, rfl, _⟩ := h; rfl) | (obtain ⟨_, _, _, _, _, _, _, rfl, _⟩ := h; rfl) | (obtain ⟨_, _, _, _, _, _, _, _, rfl, _⟩ := h; rfl) | (obtain ⟨_, _, _, _, _, _, _, _, _, rfl, _⟩ := h; rfl)
  · skip
    refine ⟨_, (pss_cons (ps_set (i := 1) sc__law_bag.nd rfl (Or.inl rfl) pe_int)
        (pss_cons (ps_for PassesOwn.never rfl (pi_list (pv 0)) (pg_name (i := 2) sc__law_bag.nd rfl (Or.inl rfl)) (pss_one (ps_set (i := 1) sc__law_bag.nd rfl (Or.inl rfl) (pe_op op_mod (Fx.pe_cTy Fx.int_I T.b_int (by decide +kernel) (Fx.pa_c (pe_op op_add (pe_op op_add (pe_op op_mul (pv 1) pe_int) (pv 2)) pe_int) pa_nil)) pe_int))))
        (pss_one (ps_ret (pe_disp (pps_cons pe_str (pe_lc (own := [("_law_cell", 2)]) rfl sc__law_bag.nd (pi_list (pv 0)) (blkOk_by (N := N__law_bag) (sc := defScope s__law_bag) (by decide +kernel)) (fun _ _ _ _ _ => (pg_name (i := 2) sc__law_bag.nd rfl (Or.inl rfl))) (fun _ _ _ _ _ => pts_nil) (fun _ _ _ _ _ => (pv 2))) (pps_cons pe_str pe_int (pps_cons pe_str pe_int (pps_cons pe_str (pv 1) (pps_cons pe_str pe_int pps_nil))))) (by rfl) (by rfl) (fun z => by cases z) (by decide)))))), ?_⟩
    obtain ⟨a, ns, rfl, hS, hlen, q⟩ := h
    refine seqI fun K1 k1 => ?_
    walk_at "rd"
    refine k1 _ _ ?_
    refine seqI fun K2 k2 => ?_
    refine ⟨_, rfl, a, rfl, ⟨_, hS⟩, for_list (K := K) (a := a) (xs := ns.map V.int) (fun i σ H' => ∃ (m : Int) (v : Option V), σ = [some (.ref a), some (.int m), v] ∧ H' = H) ⟨7, none, rfl, rfl⟩ (fun i σ H' _ ⟨_, _, _, e⟩ => by rw [e]; exact hS) ?_ ?_⟩
    · rintro i y σ H' hi ⟨m, v, rfl, rfl⟩
      obtain ⟨z, rfl⟩ : ∃ z, y = V.int z := by
        rw [List.getElem?_map] at hi
        cases e : ns[i]? with
        | none => rw [e] at hi; cases hi
        | some z => rw [e] at hi; exact ⟨z, (Option.some.inj hi).symm⟩
      walk_at "rd"
      exact ⟨.inr ⟨by decide, by decide⟩, by decide⟩
    · rintro σ H' ⟨m, v, rfl, rfl⟩
      refine k2 _ _ ?_
      intro p np
      refine ⟨.ref a, rfl, a, rfl, ⟨_, (same_new np).seq hS⟩, fun D hD => ?_⟩
      have hDp : D ≠ p := fun e => by rw [e, upd_same] at hD; cases hD
      refine lc_list (K := K) (a := a) (xs := ns.map V.int) (fun i H2 => H2 = upd (upd H' p (.dK [])) D (.lst ((ns.map V.int).take i))) rfl (fun i H2 _ e => ?_) ?_ ?_
      · rw [e]
        exact ((same_new np).trans (same_new hD)).seq hS
      · rintro i x H2 hx rfl
        refine ⟨rfl, ?_⟩
        walk_at "rd"
        refine ⟨?_, ?_⟩
        · rw [List.length_take]
          exact Nat.lt_of_le_of_lt (Nat.min_le_right _ _) (by rw [List.length_map]; exact Nat.lt_of_le_of_lt hlen (by decide))
        · rw [upd_upd, List.take_add_one, hx]
          rfl
      · rintro H2 rfl
        simp only [tPairs]
        walk_at "rd"
        have hpD : p ≠ D := fun e => hDp e.symm
        refine ⟨by rw [upd_ne hpD, upd_same], [(.inr "cells", .ref D), (.inr "at", .int 0), (.inr "rest", .int 0), (.inr "mixed", .int m), (.inr "count", .int 0)], rfl, (show 5 ≤ 15 by decide), ?_⟩
        refine q p _ (fun b o e => ?_) np ⟨D, ns, 0, 0, m, 0, upd_same, ?_, by decide⟩
        · rw [upd_ne (ne_of_none e np), upd_ne (ne_of_none (same_new np (o := .dK []) b o e) hD), upd_ne (ne_of_none e np)]
          exact e
        · rw [upd_ne hDp, upd_same, List.take_length]
end
section
variable {P : Program} {w : World} {K : PySem.W.Frag} {mg : Str → Option Value} {base : Heap}
theorem ok__law_pick (S : Src K mg "_law_pick" s__law_pick) (T : Tx P K mg)   : Cal P w K mg base CX0 1 "_law_pick" ["_law_bag_here", "_law_many"] spPick := by
  refine S.cal sc__law_pick bn__law_pick (fun vs H Q E h => ?_) (fun f cdv A outer s H vs Q E hr h => ?_)
  · first | (obtain ⟨rfl, _⟩ := h; rfl) | (obtain ⟨_, rfl, _⟩ := h; rfl) | (obtain ⟨_, _, rfl, _⟩ := h; rfl) | (obtain ⟨_, _, _, rfl, _⟩ := h; rfl) | (obtain ⟨_, _, _, _, rfl, _⟩ := h; rfl) | (obtain ⟨_, _, _, _, _, rfl, _⟩ := h; rfl) | (obtain ⟨_, _, _, _, _, _, rfl, _⟩ := h; rfl) | (obtain ⟨_, _, _, _, _, _, _, rfl, _⟩ := h; rfl) | (obtain ⟨_, _, _, _, _, _, _, _, rfl, _⟩ := h; rfl) | (obtain ⟨_, _, _, _, _, _, _, _, _, rfl, _⟩ := h; rfl)
  · skip
    refine ⟨_, (pss_cons (ps_dput (hu_of hr) (pv 0) pe_str (pe_op op_add (pe_dget (hu_of hr) (pv 0) pe_str (fun _ _ => rfl)) pe_int) rfl)
        (pss_cons (ps_if (pt_cmpR op_gt (pe_dget (hu_of hr) (pv 0) pe_str (fun _ _ => rfl)) pe_int (nomark _)) (pss_cons (ps_set (i := 2) sc__law_pick.nd rfl (Or.inl rfl) (pe_dget (hu_of hr) (pv 0) pe_str (fun _ _ => rfl)))
        (pss_cons (ps_dput (hu_of hr) (pv 0) pe_str (pe_op op_fdiv (pv 2) (pv 1)) rfl)
        (pss_one (ps_ret (pe_op op_mod (Fx.pe_cTy Fx.int_I T.b_int (by decide +kernel) (Fx.pa_c (pv 2) pa_nil)) (pv 1)))))) pss_nil)
        (pss_cons (ps_set (i := 3) sc__law_pick.nd rfl (Or.inl rfl) pe_int)
        (pss_cons (ps_if (pt_cmpR op_lt (pe_dget (hu_of hr) (pv 0) pe_str (fun _ _ => rfl)) (Fx.pe_cB Fx.len_L T.b_len (by decide +kernel) (Fx.pa_c (pe_dget (hu_of hr) (pv 0) pe_str (fun _ _ => rfl)) pa_nil)) (nomark _)) (pss_cons (ps_set (i := 3) sc__law_pick.nd rfl (Or.inl rfl) (pe_ix Fx.ix_L (pe_dget (hu_of hr) (pv 0) pe_str (fun _ _ => rfl)) (pe_dget (hu_of hr) (pv 0) pe_str (fun _ _ => rfl)) (fun _ _ => rfl)))
        (pss_cons (ps_dput (hu_of hr) (pv 0) pe_str (pe_op op_add (pe_dget (hu_of hr) (pv 0) pe_str (fun _ _ => rfl)) pe_int) rfl)
        (pss_one (ps_if (pt_cmpR op_ge (pv 3) (pe_op op_pow pe_int pe_int) (nomark _)) (pss_cons (ps_dput (hu_of hr) (pv 0) pe_str (pe_op op_fdiv (pv 3) (pv 1)) rfl)
        (pss_one (ps_ret (pe_op op_mod (Fx.pe_cTy Fx.int_I T.b_int (by decide +kernel) (Fx.pa_c (pv 3) pa_nil)) (pv 1))))) pss_nil)))) pss_nil)
        (pss_cons (ps_set (i := 2) sc__law_pick.nd rfl (Or.inl rfl) (pe_op op_mod (Fx.pe_cTy Fx.int_I T.b_int (by decide +kernel) (Fx.pa_c (pe_op op_add (pe_op op_add (pe_op op_mul (pv 3) pe_int) (pe_op op_mul (pe_dget (hu_of hr) (pv 0) pe_str (fun _ _ => rfl)) pe_int)) (pe_op op_mul (pe_dget (hu_of hr) (pv 0) pe_str (fun _ _ => rfl)) pe_int)) pa_nil)) pe_int))
        (pss_cons (ps_set (i := 2) sc__law_pick.nd rfl (Or.inl rfl) (pe_op op_mod (Fx.pe_cTy Fx.int_I T.b_int (by decide +kernel) (Fx.pa_c (pe_op op_add (pe_op op_mul (pv 2) pe_int) pe_int) pa_nil)) pe_int))
        (pss_cons (ps_dput (hu_of hr) (pv 0) pe_str (pe_op op_mod (Fx.pe_cTy Fx.int_I T.b_int (by decide +kernel) (Fx.pa_c (pv 2) pa_nil)) pe_int) rfl)
        (pss_one (ps_ret (pe_op op_mod (Fx.pe_cTy Fx.int_I T.b_int (by decide +kernel) (Fx.pa_c (pe_op op_fdiv (pv 2) pe_int) pa_nil)) (pv 1))))))))))), ?_⟩
    obtain ⟨b, many, rfl, ⟨c, ns, a, r, m, n, hb, hc, ha⟩, h0, h1, q⟩ := h
    have hcb : c ≠ b := ne_of hc hb (by intro z; cases z)
    have hu : ∀ o, upd H b o c = some (.lst (ns.map V.int)) := fun o => by rw [upd_ne hcb]; exact hc
    walk_at "rd"
    simp only [dget_s hb, dput_s hb bag_len, dget_su, dput_su bag_len, bag_cells, bag_at, bag_rest, bag_mixed, bag_count, bag_atP, bag_restP, bag_mixedP, bag_countP, Option.some.injEq, exists_eq_left, exists_eq_left', V.int.injEq, V.ref.injEq, HO.lst.injEq, hu]
    have fin : ∀ (x y z u : Int) (n : Int), 0 ≤ n → n < many → 0 ≤ x → Q (.int n) (upd H b (.dK (bagKV c x y z u))) := fun x y z u n g1 g2 g3 =>
      q n _ g1 g2 ⟨fun p o hp e => by rw [upd_ne hp]; exact e, ⟨c, ns, x, y, z, u, upd_same, hu _, g3⟩, fun c' ⟨ns', x', y', z', u', e1, e2, e3⟩ => by
        rw [hb] at e1
        have ec : c = c' := by
          simp only [Option.some.injEq, HO.dK.injEq, bagKV, List.cons.injEq, Prod.mk.injEq, V.ref.injEq, true_and] at e1
          exact e1.1
        subst ec
        exact ⟨ns, x, y, z, u, upd_same, hu _, g3⟩⟩
    have mm : ∀ x : Int, 0 ≤ x % many ∧ x % many < many := fun x => ⟨Int.emod_nonneg _ (by omega), Int.emod_lt_of_pos _ h0⟩
    refine ite_i (fun hr => ⟨⟨h0, h1⟩, h0, fin _ _ _ _ _ (mm _).1 (mm _).2 ha⟩) (fun hr => ?_)
    refine ite_i (fun hl => ?_) (fun hl => ?_)
    · obtain ⟨x, ex⟩ := atI_ok ha hl
      refine ⟨.int x, ex, ?_⟩
      simp only [V.int.injEq, exists_eq_left', exists_eq_left]
      refine ⟨⟨by decide, by decide, by decide⟩, ite_i (fun hx => ⟨⟨h0, h1⟩, h0, fin _ _ _ _ _ (mm _).1 (mm _).2 (by omega)⟩) (fun hx => ?_)⟩
      exact ⟨.inr ⟨by decide, by decide⟩, .inr ⟨by decide, by decide⟩, .inr ⟨by decide, by decide⟩, by decide, .inr ⟨by decide, by decide⟩, by decide, by decide, ⟨by decide, by decide⟩, h0, fin _ _ _ _ _ (mm _).1 (mm _).2 (by omega)⟩
    · exact ⟨.inr ⟨by decide, by decide⟩, .inr ⟨by decide, by decide⟩, .inr ⟨by decide, by decide⟩, by decide, .inr ⟨by decide, by decide⟩, by decide, by decide, ⟨by decide, by decide⟩, h0, fin _ _ _ _ _ (mm _).1 (mm _).2 ha⟩
end
section
variable {P : Program} {w : World} {K : PySem.W.Frag} {mg : Str → Option Value} {base : Heap}
theorem ok__law_integer (S : Src K mg "_law_integer" s__law_integer) (T : Tx P K mg)   : Cal P w K mg base CX0 1 "_law_integer" ["_law_thing"] spInteger := by
  refine S.cal sc__law_integer bn__law_integer (fun vs H Q E h => ?_) (fun f cdv A outer s H vs Q E hr h => ?_)
  · first | (obtain ⟨rfl, _⟩ := h; rfl) | (obtain ⟨_, rfl, _⟩ := h; rfl) | (obtain ⟨_, _, rfl, _⟩ := h; rfl) | (obtain ⟨_, _, _, rfl, _⟩ := h; rfl) | (obtain ⟨_, _, _, _, rfl, _⟩ := h; rfl) | (obtain ⟨_, _, _, _, _, rfl, _⟩ := h; rfl) | (obtain ⟨_, _, _, _, _, _, rfl, _⟩ := h; rfl) | (obtain ⟨_, _, _, _, _, _, _, rfl, _⟩ := h; rfl) | (obtain ⟨_, _, _, _, _, _, _, _, rfl, _⟩ := h; rfl) | (obtain ⟨_, _, _, _, _, _, _, _, _, rfl, _⟩ := h; rfl)
  · skip
    refine ⟨_, (pss_one (ps_ret (pe_and (Fx.pe_cB Fx.is_B T.b_isinstance (by decide +kernel) (Fx.pa_c (pv 0) (Fx.pa_c (pe_bltn (v := .ty "int") (by rfl) T.b_int (by decide +kernel) rfl) pa_nil))) (pe_one (pe_not (Fx.pe_cB Fx.is_B T.b_isinstance (by decide +kernel) (Fx.pa_c (pv 0) (Fx.pa_c (pe_bltn (v := .ty "bool") (by rfl) T.b_bool (by decide +kernel) rfl) pa_nil)))))))), ?_⟩
    obtain ⟨i, rfl, q⟩ := h
    walk_at "rd"
    exact q
end
section
variable {P : Program} {w : World} {K : PySem.W.Frag} {mg : Str → Option Value} {base : Heap}
theorem ok__law_codes (S : Src K mg "_law_codes" s__law_codes) (T : Tx P K mg)   : Cal P w K mg base CX0 1 "_law_codes" ["_law_sign"] spLCodes := by
  refine S.cal sc__law_codes bn__law_codes (fun vs H Q E h => ?_) (fun f cdv A outer s H vs Q E hr h => ?_)
  · first | (obtain ⟨rfl, _⟩ := h; rfl) | (obtain ⟨_, rfl, _⟩ := h; rfl) | (obtain ⟨_, _, rfl, _⟩ := h; rfl) | (obtain ⟨_, _, _, rfl, _⟩ := h; rfl) | (obtain ⟨_, _, _, _, rfl, _⟩ := h; rfl) | (obtain ⟨_, _, _, _, _, rfl, _⟩ := h; rfl) | (obtain ⟨_, _, _, _, _, _, rfl, _⟩ := h; rfl) | (obtain ⟨_, _, _, _, _, _, _, rfl, _⟩ := h; rfl) | (obtain ⟨_, _, _, _, _, _, _, _, rfl, _⟩ := h; rfl) | (obtain ⟨_, _, _, _, _, _, _, _, _, rfl, _⟩ := h; rfl)
  · skip
    refine ⟨_, (pss_cons (ps_set (i := 1) sc__law_codes.nd rfl (Or.inl rfl) (pe_lst (Fx.pa_c pe_str (Fx.pa_c pe_str (Fx.pa_c pe_str pa_nil)))))
        (pss_cons (ps_for PassesOwn.never rfl (pi_range1 rfl T.b_range (Fx.pa_c pe_int pa_nil)) (pg_name (i := 2) sc__law_codes.nd rfl (Or.inl rfl)) (pss_cons (ps_set (i := 3) sc__law_codes.nd rfl (Or.inl rfl) (pe_m1 PySem.F.slot_str_find PySem.F.type_str_find mt_find (pe_ix Fx.ix_L (pv 1) (pv 2) (fun _ _ => rfl)) (pv 0)))
        (pss_one (ps_if (pt_cmpR op_ge (pv 3) pe_int (nomark _)) (pss_one (ps_ret (pe_ix Fx.ix_L (pe_lst (Fx.pa_c (pe_lst (Fx.pa_c (pv 3) pa_nil)) (Fx.pa_c (pe_lst (Fx.pa_c pe_int (Fx.pa_c (pv 3) pa_nil))) (Fx.pa_c (pe_lst (Fx.pa_c pe_int (Fx.pa_c (pv 3) pa_nil))) pa_nil)))) (pv 2) (fun _ _ => rfl)))) pss_nil))))
        (pss_one (ps_ret (pe_lst (Fx.pa_c pe_int (Fx.pa_c (pe_op op_fdiv (Fx.pe_cB Fx.ord_S T.b_ord (by decide +kernel) (Fx.pa_c (pv 0) pa_nil)) pe_int) (Fx.pa_c (pe_op op_mod (Fx.pe_cTy Fx.int_I T.b_int (by decide +kernel) (Fx.pa_c (Fx.pe_cB Fx.ord_S T.b_ord (by decide +kernel) (Fx.pa_c (pv 0) pa_nil)) pa_nil)) pe_int) pa_nil)))))))), ?_⟩
    obtain ⟨c, rfl, q⟩ := h
    refine seqI fun K1 k1 => ?_
    walk_at "rd"
    refine ⟨by decide, fun p np => k1 _ _ ?_⟩
    refine seqI fun K2 k2 => ?_
    refine ⟨3, rfl, by decide, by decide, for_range (lo := 0) (n := 3) (fun i σ H' => ∃ v2 v3, σ = [some (.str (S1 c)), some (.ref p), v2, v3] ∧ H' = upd H p (.lst [.str rowA, .str rowB, .str rowC]) ∧ (1 ≤ i → ¬ 0 ≤ Txt.find rowA (S1 c)) ∧ (2 ≤ i → ¬ 0 ≤ Txt.find rowB (S1 c)) ∧ (3 ≤ i → ¬ 0 ≤ Txt.find rowC (S1 c))) ⟨none, none, rfl, rfl, by omega, by omega, by omega⟩ ?_ ?_⟩
    · rintro i σ H' hi ⟨v2, v3, rfl, rfl, g1, g2, g3⟩
      have fin : ∀ (r : V) (p1 p2 p3 p4 : Addr) (x1 x2 x3 x4 : List V), (upd H p (.lst [.str rowA, .str rowB, .str rowC])) p1 = none → (upd (upd H p (.lst [.str rowA, .str rowB, .str rowC])) p1 (.lst x1)) p2 = none →
          (upd (upd (upd H p (.lst [.str rowA, .str rowB, .str rowC])) p1 (.lst x1)) p2 (.lst x2)) p3 = none → (upd (upd (upd (upd H p (.lst [.str rowA, .str rowB, .str rowC])) p1 (.lst x1)) p2 (.lst x2)) p3 (.lst x3)) p4 = none →
          ((r = .ref p1 ∧ x1 = (codeL c).map V.int) ∨ (r = .ref p2 ∧ x2 = (codeL c).map V.int) ∨ (r = .ref p3 ∧ x3 = (codeL c).map V.int)) → Q r (upd (upd (upd (upd (upd H p (.lst [.str rowA, .str rowB, .str rowC])) p1 (.lst x1)) p2 (.lst x2)) p3 (.lst x3)) p4 (.lst x4)) := by
        intro r p1 p2 p3 p4 x1 x2 x3 x4 n1 n2 n3 n4 hr
        have s0 : Same H (upd H p (.lst [.str rowA, .str rowB, .str rowC])) := same_new np
        have s1 := same_new (o := .lst x1) n1
        have s2 := same_new (o := .lst x2) n2
        have s3 := same_new (o := .lst x3) n3
        have s4 := same_new (o := .lst x4) n4
        rcases hr with ⟨rfl, e⟩ | ⟨rfl, e⟩ | ⟨rfl, e⟩
        · exact q p1 _ (s0.trans (s1.trans (s2.trans (s3.trans s4)))) (s0.free n1) (by rw [← e]; exact s4 _ _ (s3 _ _ (s2 _ _ upd_same)))
        · exact q p2 _ (s0.trans (s1.trans (s2.trans (s3.trans s4)))) (s0.free (s1.free n2)) (by rw [← e]; exact s4 _ _ (s3 _ _ upd_same))
        · exact q p3 _ (s0.trans (s1.trans (s2.trans (s3.trans s4)))) (s0.free (s1.free (s2.free n3))) (by rw [← e]; exact s4 _ _ upd_same)
      rcases (by omega : i = 0 ∨ i = 1 ∨ i = 2) with rfl | rfl | rfl
      · walk_at "rd"
        refine ⟨.str rowA, rfl, ?_⟩
        walk_at "rd"
        refine ite_i (fun h1 => ⟨by decide, fun p1 n1 => ⟨by decide, fun p2 n2 => ⟨by decide, fun p3 n3 => ⟨by decide, fun p4 n4 => ⟨_, rfl, fin _ _ _ _ _ _ _ _ _ n1 n2 n3 n4 (.inl ⟨rfl, ?_⟩)⟩⟩⟩⟩⟩) (fun h1 => ⟨fun _ => h1, by omega, by omega⟩)
        unfold codeL
        rw [if_pos h1]
        rfl
      · walk_at "rd"
        refine ⟨.str rowB, rfl, ?_⟩
        walk_at "rd"
        refine ite_i (fun h2 => ⟨by decide, fun p1 n1 => ⟨by decide, fun p2 n2 => ⟨by decide, fun p3 n3 => ⟨by decide, fun p4 n4 => ⟨_, rfl, fin _ _ _ _ _ _ _ _ _ n1 n2 n3 n4 (.inr (.inl ⟨rfl, ?_⟩))⟩⟩⟩⟩⟩) (fun h2 => ⟨fun _ => g1 (by omega), fun _ => h2, by omega⟩)
        unfold codeL
        rw [if_neg (g1 (by omega)), if_pos h2]
        rfl
      · walk_at "rd"
        refine ⟨.str rowC, rfl, ?_⟩
        walk_at "rd"
        refine ite_i (fun h3 => ⟨by decide, fun p1 n1 => ⟨by decide, fun p2 n2 => ⟨by decide, fun p3 n3 => ⟨by decide, fun p4 n4 => ⟨_, rfl, fin _ _ _ _ _ _ _ _ _ n1 n2 n3 n4 (.inr (.inr ⟨rfl, ?_⟩))⟩⟩⟩⟩⟩) (fun h3 => ⟨fun _ => g1 (by omega), fun _ => g2 (by omega), fun _ => h3⟩)
        unfold codeL
        rw [if_neg (g1 (by omega)), if_neg (g2 (by omega)), if_pos h3]
        rfl
    · rintro σ H' ⟨v2, v3, rfl, rfl, g1, g2, g3⟩
      refine k2 _ _ ?_
      walk_at "rd"
      refine ⟨rfl, ⟨by decide, by decide⟩, rfl, by decide, by decide, fun l nl => q l _ ((same_new np).trans (same_new nl)) ((same_new np (o := .lst [.str rowA, .str rowB, .str rowC])).free nl) ?_⟩
      rw [upd_same]
      unfold codeL
      rw [if_neg (g1 (by omega)), if_neg (g2 (by omega)), if_neg (g3 (by omega))]
      rfl
end
section
variable {P : Program} {w : World} {K : PySem.W.Frag} {mg : Str → Option Value} {base : Heap}
theorem ok__law_word (S : Src K mg "_law_word" s__law_word) (T : Tx P K mg) (C__law_pick : Cal P w K mg base CX0 1 "_law_pick" ["_law_bag_here", "_law_many"] spPick)  : Cal P w K mg base CX0 2 "_law_word" ["_law_bag_here"] spWordB := by
  refine S.cal sc__law_word bn__law_word (fun vs H Q E h => ?_) (fun f cdv A outer s H vs Q E hr h => ?_)
  · first | (obtain ⟨rfl, _⟩ := h; rfl) | (obtain ⟨_, rfl, _⟩ := h; rfl) | (obtain ⟨_, _, rfl, _⟩ := h; rfl) | (obtain ⟨_, _, _, rfl, _⟩ := h; rfl) | (obtain ⟨_, _, _, _, rfl, _⟩ := h; rfl) | (obtain ⟨_, _, _, _, _, rfl, _⟩ := h; rfl) | (obtain ⟨_, _, _, _, _, _, rfl, _⟩ := h; rfl) | (obtain ⟨_, _, _, _, _, _, _, rfl, _⟩ := h; rfl) | (obtain ⟨_, _, _, _, _, _, _, _, rfl, _⟩ := h; rfl) | (obtain ⟨_, _, _, _, _, _, _, _, _, rfl, _⟩ := h; rfl)
  · skip
    refine ⟨_, (pss_cons (ps_set (i := 1) sc__law_word.nd rfl (Or.inr rfl) pe_str)
        (pss_cons (ps_set (i := 2) sc__law_word.nd rfl (Or.inl rfl) (Fx.pe_cal C__law_pick (hr.mono (by decide)) pass0 (Fx.pa_c (pv 0) (Fx.pa_c pe_int pa_nil))))
        (pss_cons (ps_set (i := 1) sc__law_word.nd rfl (Or.inr rfl) (pe_slice sl_str (pe_op op_add_str (pv 1) (pv 1)) (po_some (pv 2)) (po_some (pe_op op_add (pe_op op_add (pv 2) pe_int) (Fx.pe_cal C__law_pick (hr.mono (by decide)) pass0 (Fx.pa_c (pv 0) (Fx.pa_c pe_int pa_nil)))))))
        (pss_cons (ps_set (i := 3) sc__law_word.nd rfl (Or.inl rfl) (pe_op op_add pe_int (Fx.pe_cal C__law_pick (hr.mono (by decide)) pass0 (Fx.pa_c (pv 0) (Fx.pa_c (pe_ix Fx.ix_L (pe_lst (Fx.pa_c pe_int (Fx.pa_c pe_int pa_nil))) (Fx.pe_cal C__law_pick (hr.mono (by decide)) pass0 (Fx.pa_c (pv 0) (Fx.pa_c pe_int pa_nil))) (fun _ _ => rfl)) pa_nil)))))
        (pss_one (ps_ret (pe_m1 PySem.F.slot_str_join PySem.F.type_str_join Fx.mt_jn pe_str (pe_lc (own := [("_law_step", 4)]) rfl sc__law_word.nd (pi_range1 rfl T.b_range (Fx.pa_c (pv 3) pa_nil)) (blkOk_by (N := N__law_word) (sc := defScope s__law_word) (by decide +kernel)) (fun _ _ _ _ _ => (pg_name (i := 4) sc__law_word.nd rfl (Or.inl rfl))) (fun _ _ _ _ _ => pts_nil) (fun _ _ _ _ _ => (pe_ix Fx.ix_S (pv 1) (Fx.pe_cal C__law_pick (hr.mono (by decide)) pass0 (Fx.pa_c (pv 0) (Fx.pa_c (Fx.pe_cB Fx.len_S T.b_len (by decide +kernel) (Fx.pa_c (pv 1) pa_nil)) pa_nil))) (fun _ _ => rfl))))))))))), ?_⟩
    obtain ⟨b, rfl, hB, q⟩ := h
    refine seqI fun K1 k1 => ?_
    walk_at "rd"
    refine k1 _ _ ?_
    clear k1
    refine seqI fun K1 k1 => ?_
    walk_at "rd"
    refine ⟨b, 26, rfl, hB, by decide, by decide, fun at_ H1 a0 a1 kp1 => k1 _ _ ?_⟩
    clear k1
    refine seqI fun K1 k1 => ?_
    walk_at "rd"
    refine ⟨by decide, b, 26, rfl, kp1.bag, by decide, by decide, fun x H2 x0 x1 kp2 => ⟨x, rfl, by decide, k1 _ _ ?_⟩⟩
    clear k1
    have tw := twice_cut (L := "etaonisrhldcumfpgwybvkxjqz") a0 (show at_ < 26 from a1) x0 (show x < 26 from x1)
    have el : ∀ c ∈ (("etaonisrhldcumfpgwybvkxjqz" : Str)).cps.toList, c ∈ letS.cps.toList := by decide +kernel
    generalize cutS (Str.ofString "etaonisrhldcumfpgwybvkxjqz" ++ Str.ofString "etaonisrhldcumfpgwybvkxjqz") (some at_) (some (at_ + 1 + x)) = sg at tw
    obtain ⟨g1, g2, g3⟩ := tw
    replace g2 : sg.length ≤ 52 := g2
    replace kp1 := kp1.trans kp2
    clear kp2
    refine seqI fun K1 k1 => ?_
    walk_at "rd"
    refine ⟨by decide, ?_⟩
    have B1 := kp1.bag
    intro p1 n1
    generalize e_p1 : upd H2 p1 _ = H3
    have s3 := new_s n1 e_p1
    have h3 := new_h e_p1
    clear e_p1
    try (first | replace B1 := s3 _ _ B1 | replace B1 := B1.same s3 | replace B1 := B1.then s3 | replace B1 := B1.trans s3)
    try (first | replace kp1 := s3 _ _ kp1 | replace kp1 := kp1.same s3 | replace kp1 := kp1.then s3 | replace kp1 := kp1.trans s3)
    refine ⟨b, 2, rfl, B1, by decide, by decide, fun w H4 w0 w1 kp4 => ?_⟩
    obtain ⟨y, y0, y1, ey⟩ : ∃ y : Int, 0 < y ∧ y ≤ 18 ∧ atI [V.int 3, V.int 18] w = some (.int y) := by
      rcases (by omega : w = 0 ∨ w = 1) with rfl | rfl
      · exact ⟨3, by decide, by decide, rfl⟩
      · exact ⟨18, by decide, by decide, rfl⟩
    try (first | replace kp1 := Kp.lst kp4 B1 kp1 | replace kp1 := Kp.tup kp4 B1 kp1 | replace kp1 := Kp.ins kp4 B1 kp1 | replace kp1 := kp1.kp B1 kp4 | replace kp1 := Kp.trans kp1 kp4)
    try (first | replace h3 := Kp.lst kp4 B1 h3 | replace h3 := Kp.tup kp4 B1 h3 | replace h3 := Kp.ins kp4 B1 h3 | replace h3 := h3.kp B1 kp4 | replace h3 := Kp.trans h3 kp4)
    replace B1 := Kp.bag kp4
    refine ⟨w, rfl, _, h3, _, ey, b, y, rfl, B1, y0, by omega, fun m H5 m0 m1 kp5 => ⟨m, rfl, k1 _ _ ?_⟩⟩
    try (first | replace kp1 := Kp.lst kp5 B1 kp1 | replace kp1 := Kp.tup kp5 B1 kp1 | replace kp1 := Kp.ins kp5 B1 kp1 | replace kp1 := kp1.kp B1 kp5 | replace kp1 := Kp.trans kp1 kp5)
    try (first | replace h3 := Kp.lst kp5 B1 h3 | replace h3 := Kp.tup kp5 B1 h3 | replace h3 := Kp.ins kp5 B1 h3 | replace h3 := h3.kp B1 kp5 | replace h3 := Kp.trans h3 kp5)
    replace B1 := Kp.bag kp5
    clear k1 h3 ey w0 w1
    walk_at "rd"
    refine ⟨_, rfl, 3 + m, rfl, by omega, by omega, fun D nD => ?_⟩
    refine lc_range (lo := 0) (n := (3 + m).toNat) (fun i H6 => ∃ cs : List Nat, cs.length = i ∧ (∀ c ∈ cs, c ∈ letS.cps.toList) ∧ H6 D = some (.lst ((cs.map S1).map V.str)) ∧ Kp b H5 H6) ⟨[], rfl, fun c h => by (cases h), upd_same, Kp.put B1 (Kp.refl B1) nD⟩ ?_ ?_
    · rintro i H6 hi ⟨cs, hcs, hall, hD, kp6⟩
      refine ⟨rfl, ?_⟩
      walk_at "rd"
      refine ⟨sz (by omega), b, _, rfl, kp6.bag, by omega, by omega, fun r H7 r0 r1 kp7 => ?_⟩
      obtain ⟨c, hc, hm⟩ := atI_mem (xs := sg.cps.toList) r0 (by rw [Array.length_toList]; exact r1)
      walk_at "rd"
      refine ⟨sz (by omega), c, hc, _, kp7.lst kp6.bag hD, ?_, cs ++ [c], ?_, ?_, ?_, Kp.put B1 (kp6.trans kp7) nD⟩
      · rw [List.length_map, List.length_map]
        exact Nat.lt_of_lt_of_le (by omega : _ < 100) (by decide)
      · rw [List.length_append, hcs]
        rfl
      · intro x hx
        rcases List.mem_append.mp hx with hx | hx
        · exact hall x hx
        · rw [List.mem_singleton.mp hx]
          exact el c (g3 c hm)
      · rw [List.map_append, List.map_append]
        rfl
    rintro H6 ⟨cs, hcs, hall, hD, kp6⟩
    refine ⟨D, rfl, cs.map S1, hD, join_fits (by omega), q _ _ ?_ (kp1.trans kp6)⟩
    refine isSW_of ?_ ?_ fun c hc => hall c (by rw [join_S1] at hc; exact hc)
    · rw [join_len]
      omega
    · rw [join_len]
      omega
end
section
variable {P : Program} {w : World} {K : PySem.W.Frag} {mg : Str → Option Value} {base : Heap}
theorem ok__law_distinct (S : Src K mg "_law_distinct" s__law_distinct) (T : Tx P K mg)   : Cal P w K mg base CX0 1 "_law_distinct" ["_law_words"] spDist := by
  refine S.cal sc__law_distinct bn__law_distinct (fun vs H Q E h => ?_) (fun f cdv A outer s H vs Q E hr h => ?_)
  · first | (obtain ⟨rfl, _⟩ := h; rfl) | (obtain ⟨_, rfl, _⟩ := h; rfl) | (obtain ⟨_, _, rfl, _⟩ := h; rfl) | (obtain ⟨_, _, _, rfl, _⟩ := h; rfl) | (obtain ⟨_, _, _, _, rfl, _⟩ := h; rfl) | (obtain ⟨_, _, _, _, _, rfl, _⟩ := h; rfl) | (obtain ⟨_, _, _, _, _, _, rfl, _⟩ := h; rfl) | (obtain ⟨_, _, _, _, _, _, _, rfl, _⟩ := h; rfl) | (obtain ⟨_, _, _, _, _, _, _, _, rfl, _⟩ := h; rfl) | (obtain ⟨_, _, _, _, _, _, _, _, _, rfl, _⟩ := h; rfl)
  · skip
    refine ⟨_, (pss_cons (ps_set (i := 1) sc__law_distinct.nd rfl (Or.inl rfl) (pe_lst pa_nil))
        (pss_cons (ps_for PassesOwn.never rfl (pi_list (pv 0)) (pg_name (i := 2) sc__law_distinct.nd rfl (Or.inl rfl)) (pss_one (ps_if (pt_cmpR Fx.notIn_S (pv 2) (pv 1) rfl) (pss_one (ps_expr (pe_bm PySem.F.plainAttrs_list PySem.F.slot_list_append PySem.F.type_list_append mt_append (pv 1) (Fx.pa_c (pv 2) pa_nil)))) pss_nil)))
        (pss_one (ps_ret (Fx.pe_cB Fx.sort_S T.b_sorted (by decide +kernel) (Fx.pa_c (pv 1) pa_nil)))))), ?_⟩
    obtain ⟨p, l, rfl, hp, hl, q⟩ := h
    refine seqI fun K1 k1 => ?_
    walk_at "rd"
    refine ⟨by decide, fun pf nf => k1 _ _ ?_⟩
    clear k1
    have hpf : p ≠ pf := ne_of_none hp nf
    refine seqI fun K1 k1 => ?_
    refine ⟨_, rfl, p, rfl, ⟨_, .inl (.inl (same_new nf _ _ hp))⟩, for_list (K := K) (a := p) (xs := ms l) (fun i σ H' => ∃ (v2 : Option V) (ys : List Str), σ = [some (.ref p), some (.ref pf), v2] ∧ ys.Nodup ∧ (∀ f, f ∈ ys ↔ f ∈ l.take i) ∧ ys.length ≤ i ∧ H' = upd H pf (.lst (ms ys))) ⟨none, [], rfl, List.nodup_nil, fun f => by simp, Nat.le_refl _, rfl⟩ (fun i σ H' _ ⟨_, _, _, _, _, _, e⟩ => by rw [e]; exact .inl (.inl (same_new nf _ _ hp))) ?_ ?_⟩
    · rintro i y σ H' hy ⟨v2, ys, rfl, nd, hm, ly, rfl⟩
      clear k1
      have hi := (List.getElem?_eq_some_iff.mp hy).1
      rw [List.length_map] at hi
      rw [List.getElem?_map, List.getElem?_eq_getElem hi] at hy
      have ey : y = .str l[i] := (Option.some.inj hy).symm
      subst ey
      have tk : ∀ f, f ∈ List.take (i + 1) l ↔ f ∈ List.take i l ∨ f = l[i] := fun f => by
        rw [List.take_add_one, List.getElem?_eq_getElem hi, List.mem_append]
        simp
      walk_at "rd"
      refine ⟨ys, .inl upd_same, ite_i (fun h => ?_) (fun h => ?_)⟩
      · refine ⟨ys, nd, fun f => ?_, by omega, rfl⟩
        rw [tk f, hm f]
        constructor
        · exact .inl
        · rintro (h1 | h1)
          · exact h1
          · rw [h1]
            exact (hm _).mp h
      · refine ⟨tyL upd_same, ?_, ys ++ [l[i]], ?_, fun f => ?_, ?_, ?_⟩
        · rw [List.length_map]
          exact Nat.lt_of_lt_of_le (by omega : _ < 100000) (by decide)
        · rw [List.nodup_append]
          refine ⟨nd, by simp, fun a ha b hb => ?_⟩
          have eb : b = l[i] := by simpa using hb
          rw [eb]
          intro e
          exact h (e ▸ ha)
        · rw [tk f, List.mem_append, hm f]
          simp
        · rw [List.length_append]
          show ys.length + 1 ≤ i + 1
          omega
        · rw [upd_upd, ms, ms, List.map_append]
          rfl
    rintro σ H' ⟨v2, ys, rfl, nd, hm, ly, rfl⟩
    refine k1 _ _ ?_
    clear k1
    walk_at "rd"
    rw [List.length_map, List.take_length] at hm
    have s1 := same_new (o := .lst (ms ys)) nf
    exact ⟨ys, rfl, fun zs q1 perm so nq => q q1 zs _ (s1.trans (same_new nq)) ⟨so, perm.nodup_iff.mpr nd, fun f => perm.mem_iff.trans (hm f)⟩ (s1.free nq) upd_same⟩
end
section
variable {P : Program} {w : World} {K : PySem.W.Frag} {mg : Str → Option Value} {base : Heap}
theorem ok__law_pieces (S : Src K mg "_law_pieces" s__law_pieces) (T : Tx P K mg)   : Cal P w K mg base CX0 1 "_law_pieces" ["_law_text"] spPieces := by
  refine S.cal sc__law_pieces bn__law_pieces (fun vs H Q E h => ?_) (fun f cdv A outer s H vs Q E hr h => ?_)
  · first | (obtain ⟨rfl, _⟩ := h; rfl) | (obtain ⟨_, rfl, _⟩ := h; rfl) | (obtain ⟨_, _, rfl, _⟩ := h; rfl) | (obtain ⟨_, _, _, rfl, _⟩ := h; rfl) | (obtain ⟨_, _, _, _, rfl, _⟩ := h; rfl) | (obtain ⟨_, _, _, _, _, rfl, _⟩ := h; rfl) | (obtain ⟨_, _, _, _, _, _, rfl, _⟩ := h; rfl) | (obtain ⟨_, _, _, _, _, _, _, rfl, _⟩ := h; rfl) | (obtain ⟨_, _, _, _, _, _, _, _, rfl, _⟩ := h; rfl) | (obtain ⟨_, _, _, _, _, _, _, _, _, rfl, _⟩ := h; rfl)
  · skip
    refine ⟨_, (pss_cons (ps_set (i := 1) sc__law_pieces.nd rfl (Or.inl rfl) (pe_lst pa_nil))
        (pss_cons (ps_for PassesOwn.never rfl (pi_str (pv 0)) (pg_name (i := 2) sc__law_pieces.nd rfl (Or.inl rfl)) (pss_one (ps_if (PW.pt (pw_and (pt_cmpR op_in_sign (pv 2) pe_str rfl) (pw_and (pt_truth (pv 1) (by intro _; rfl)) (pw_and1 (pt_cmpR op_in_sign (pe_ix Fx.ix_S (pe_ix Fx.ix_L (pv 1) (pe_un un_neg pe_int) (fun _ _ => rfl)) (pe_un un_neg pe_int) (fun _ _ => rfl)) pe_str rfl))))) (pss_one (ps_asg (pe_op op_add_str (pe_ix Fx.ix_L (pv 1) (pe_un un_neg pe_int) (fun _ _ => rfl)) (pv 2)) (pg_sub (pv 1) (pe_un un_neg pe_int) set_list))) (pss_one (ps_expr (pe_bm PySem.F.plainAttrs_list PySem.F.slot_list_append PySem.F.type_list_append mt_append (pv 1) (Fx.pa_c (pv 2) pa_nil)))))))
        (pss_one (ps_ret (pv 1))))), ?_⟩
    obtain ⟨z, rfl, hz, q⟩ := h
    have lz : z.cps.toList.length = z.length := Array.length_toList
    refine seqI fun K1 k1 => ?_
    walk_at "rd"
    refine ⟨by decide, ?_⟩
    intro pr nr
    generalize e_pr : upd H pr _ = H1
    have s1 := new_s nr e_pr
    have hr := new_h e_pr
    clear e_pr
    refine k1 _ _ ?_
    clear k1
    refine seqI fun K1 k1 => ?_
    refine ⟨.str z, rfl, z, rfl, for_S (z := z) (fun i σ H' => ∃ (run : List Nat) (v2 : Option V) (out : List Str), σ = [some (.str z), some (.ref pr), v2] ∧ H' pr = some (.lst (ms (out ++ runS run))) ∧ out ++ pg run (z.cps.toList.drop i) = pieces z ∧ run.length + out.length ≤ i ∧ (out = [] ∨ ∃ o c, out = o ++ [S1 c] ∧ isL c = false) ∧ (∀ c ∈ run, isL c = true) ∧ Same H H') ⟨[], none, [], rfl, hr, rfl, Nat.le_refl _, .inl rfl, fun c h => by (cases h), s1⟩ ?_ ?_⟩
    · rintro i c σ H2 hc ⟨run, v2, out, rfl, hr2, ho, lr, hout, hrun, s2⟩
      clear k1
      have hi := (List.getElem?_eq_some_iff.mp hc).1
      have ed : z.cps.toList.drop i = c :: z.cps.toList.drop (i + 1) := by
        obtain ⟨hlt, e⟩ := List.getElem?_eq_some_iff.mp hc
        rw [List.drop_eq_getElem_cons hlt, e]
      rw [ed] at ho
      have lrs : (runS run).length ≤ run.length := by
        unfold runS
        split
        · exact Nat.zero_le _
        · rename_i h
          show 1 ≤ _
          exact List.length_pos_iff.mpr h
      have lall : (ms (out ++ runS run)).length < 5000 := by
        rw [List.length_map, List.length_append]
        omega
      refine ifI fun A B ka kb => ?_
      have newp : ∀ (run' : List Nat), (if run' = [] then isL c = false else run' = [c] ∧ run = [] ∧ isL c = true) → B H2 := by
        intro run' hr'
        refine kb _ ?_
        walk_at "rd"
        refine ⟨tyL hr2, _, hr2, Nat.lt_of_lt_of_le lall (by decide), ?_⟩
        by_cases e : run' = []
        · rw [if_pos e] at hr'
          rw [pg_non hr'] at ho
          refine ⟨[], out ++ runS run ++ [S1 c], by simp [ms, runS], ?_, ?_, .inr ⟨out ++ runS run, c, rfl, hr'⟩, fun d h => by (cases h), Same.put s2 nr⟩
          · rw [← ho]
            simp
          · rw [List.length_append, List.length_append]
            show 0 + (out.length + (runS run).length + 1) ≤ _
            omega
        · rw [if_neg e] at hr'
          obtain ⟨rfl, rfl, hl⟩ := hr'
          rw [pg_let hl] at ho
          refine ⟨[c], out, ?_, ho, ?_, hout, fun d hd => by rw [List.mem_singleton.mp hd]; exact hl, Same.put s2 nr⟩
          · simp [ms, runS, mkS]
          · show 1 + out.length ≤ _
            have : ([] : List Nat).length = 0 := rfl
            omega
      walk_at "rd"
      refine ⟨c, rfl, ite_i (fun h1 => ?_) (fun h1 => newp [] (by rw [if_pos rfl]; exact decide_eq_false h1))⟩
      have hl : isL c = true := decide_eq_true h1
      refine ⟨_, .inl ⟨_, .inl (.inl hr2), rfl⟩, ite_i (fun h2 => ?_) (fun h2 => ?_)⟩
      · by_cases e : run = []
        · subst e
          have e2 : out ++ runS [] = out := by simp [runS]
          rw [e2] at hr2 h2
          rcases hout with rfl | ⟨o, d, rfl, hd⟩
          · exact absurd h2 (by decide)
          · refine ⟨_, hr2, _, (by rw [ms, List.map_append]; exact atI_last), S1 d, rfl, (show 1 ≤ sizeLine by decide), d, rfl, d, rfl, ?_⟩
            show (if d ∈ letS.cps.toList then A H2 else B H2)
            rw [if_neg (of_decide_eq_false hd)]
            exact newp [c] (by rw [if_neg (by simp)]; exact ⟨rfl, rfl, hl⟩)
        · obtain ⟨r, d, rfl⟩ : ∃ r d, run = r ++ [d] := ⟨run.dropLast, run.getLast e, (List.dropLast_concat_getLast e).symm⟩
          have hd := hrun d (by simp)
          have e2 : runS (r ++ [d]) = [mkS (r ++ [d])] := by rw [runS, if_neg e]
          rw [e2] at hr2 h2 lall
          have lm := mkS_len (r ++ [d])
          have ea : atI (ms (out ++ [mkS (r ++ [d])])) (-1) = some (.str (mkS (r ++ [d]))) := by rw [ms, List.map_append]; exact atI_last
          refine ⟨_, hr2, _, ea, mkS (r ++ [d]), rfl, sz (by omega), d, atI_last (xs := r), d, rfl, ?_⟩
          show (if d ∈ letS.cps.toList then A H2 else B H2)
          rw [if_pos (of_decide_eq_true hd)]
          refine ka _ ?_
          walk_at "rd"
          rw [pg_let hl] at ho
          refine ⟨_, hr2, _, ea, mkS (r ++ [d]), rfl, ?_, _, hr2, out.length, ?_, r ++ [d] ++ [c], out, ?_, ho, ?_, hout, ?_, Same.put s2 nr⟩
          · show (mkS (r ++ [d])).length + 1 ≤ _
            exact sz (by omega)
          · rw [List.length_map, List.length_append]
            exact ixN_last
          · rw [show (mkS (r ++ [d]) ++ { cps := #[c] } : Str) = mkS (r ++ [d] ++ [c]) from mkS_app (r ++ [d]) [c], runS, if_neg (by simp)]
            simp [ms]
          · rw [List.length_append]
            show (r ++ [d]).length + 1 + out.length ≤ _
            omega
          · intro x hx
            rcases List.mem_append.mp hx with hx | hx
            · exact hrun x hx
            · rw [List.mem_singleton.mp hx]
              exact hl
      · have e0 : out ++ runS run = [] := by
          cases h3 : out ++ runS run with
          | nil => rfl
          | cons a b => rw [h3] at h2; exact absurd rfl h2
        have e1 : run = [] := by
          by_cases e : run = []
          · exact e
          · rw [runS, if_neg e] at e0
            simp at e0
        exact newp [c] (by rw [if_neg (by simp)]; exact ⟨rfl, e1, hl⟩)
    rintro σ H2 ⟨run, v2, out, rfl, hr2, ho, lr, hout, hrun, s2⟩
    refine k1 _ _ ?_
    clear k1
    rw [List.drop_length] at ho
    walk_at "rd"
    refine q _ _ s2 nr ?_
    rw [hr2, ← ho]
    rfl
end
section
variable {P : Program} {w : World} {K : PySem.W.Frag} {mg : Str → Option Value} {base : Heap}
theorem ok__law_cost (S : Src K mg "_law_cost" s__law_cost) (T : Tx P K mg) (C__law_codes : Cal P w K mg base CX0 1 "_law_codes" ["_law_sign"] spLCodes)  : Cal P w K mg base CX0 2 "_law_cost" ["_law_text"] spCost := by
  refine S.cal sc__law_cost bn__law_cost (fun vs H Q E h => ?_) (fun f cdv A outer s H vs Q E hr h => ?_)
  · first | (obtain ⟨rfl, _⟩ := h; rfl) | (obtain ⟨_, rfl, _⟩ := h; rfl) | (obtain ⟨_, _, rfl, _⟩ := h; rfl) | (obtain ⟨_, _, _, rfl, _⟩ := h; rfl) | (obtain ⟨_, _, _, _, rfl, _⟩ := h; rfl) | (obtain ⟨_, _, _, _, _, rfl, _⟩ := h; rfl) | (obtain ⟨_, _, _, _, _, _, rfl, _⟩ := h; rfl) | (obtain ⟨_, _, _, _, _, _, _, rfl, _⟩ := h; rfl) | (obtain ⟨_, _, _, _, _, _, _, _, rfl, _⟩ := h; rfl) | (obtain ⟨_, _, _, _, _, _, _, _, _, rfl, _⟩ := h; rfl)
  · skip
    refine ⟨_, (pss_one (ps_ret (Fx.pe_cB (cr_sum rfl) T.b_sum (by decide +kernel) (Fx.pa_c (pe_lc (own := [("_law_sign", 1)]) rfl sc__law_cost.nd (pi_str (pv 0)) (blkOk_by (N := N__law_cost) (sc := defScope s__law_cost) (by decide +kernel)) (fun _ _ _ _ _ => (pg_name (i := 1) sc__law_cost.nd rfl (Or.inl rfl))) (fun _ _ _ _ _ => pts_nil) (fun _ _ _ _ _ => (Fx.pe_cB Fx.len_L T.b_len (by decide +kernel) (Fx.pa_c (Fx.pe_cal C__law_codes (hr.mono (by decide)) pass0 (Fx.pa_c (pv 1) pa_nil)) pa_nil)))) pa_nil)))), ?_⟩
    obtain ⟨z, rfl, hz, q⟩ := h
    have lz : z.cps.toList.length = z.length := Array.length_toList
    walk_at "rd"
    refine ⟨_, rfl, z, rfl, fun D nD => ?_⟩
    have eF : ((List.range z.cps.toList.length).map fun i => [V.int ((codeL (z.cps.toList.getD i 0)).length : Nat)]).flatten = mi (z.cps.toList.map fun c => ((codeL c).length : Int)) := flat_map2 0 (fun c => ((codeL c).length : Int)) _
    refine lc_S (LcP H D fun i => [V.int ((codeL (z.cps.toList.getD i 0)).length : Nat)]) (LcP.zero nD) ?_ ?_
    · intro i c H3 hc h3
      have eg : z.cps.toList.getD i 0 = c := by rw [List.getD_eq_getElem?_getD, hc]; rfl
      have hi := (List.getElem?_eq_some_iff.mp hc).1
      walk_at "rd"
      refine ⟨c, rfl, fun p H4 s4 np hp => ⟨p, rfl, _, hp, ?_⟩⟩
      rw [List.length_map]
      exact h3.put nD (fun _ => Nat.le_refl 1) (by omega) s4 (by rw [eg])
    intro H3 h3
    have e3 := h3.2
    rw [eF] at e3
    refine ⟨D, _, rfl, .inl (.inl e3), ?_⟩
    have es : (z.cps.toList.map fun c => ((codeL c).length : Int)).sum = ((clist z).length : Nat) := by
      have := sum_lens (z.cps.toList.map codeL)
      rw [List.map_map] at this
      exact this
    rw [es]
    exact q H3 h3.1
end
section
variable {P : Program} {w : World} {K : PySem.W.Frag} {mg : Str → Option Value} {base : Heap}
theorem ok__law_pool (S : Src K mg "_law_pool" s__law_pool) (T : Tx P K mg) (C__law_pick : Cal P w K mg base CX0 1 "_law_pick" ["_law_bag_here", "_law_many"] spPick) (C__law_word : Cal P w K mg base CX0 2 "_law_word" ["_law_bag_here"] spWordB)  : Cal P w K mg base CX0 3 "_law_pool" ["_law_bag_here"] spPoolB := by
  refine S.cal sc__law_pool bn__law_pool (fun vs H Q E h => ?_) (fun f cdv A outer s H vs Q E hr h => ?_)
  · first | (obtain ⟨rfl, _⟩ := h; rfl) | (obtain ⟨_, rfl, _⟩ := h; rfl) | (obtain ⟨_, _, rfl, _⟩ := h; rfl) | (obtain ⟨_, _, _, rfl, _⟩ := h; rfl) | (obtain ⟨_, _, _, _, rfl, _⟩ := h; rfl) | (obtain ⟨_, _, _, _, _, rfl, _⟩ := h; rfl) | (obtain ⟨_, _, _, _, _, _, rfl, _⟩ := h; rfl) | (obtain ⟨_, _, _, _, _, _, _, rfl, _⟩ := h; rfl) | (obtain ⟨_, _, _, _, _, _, _, _, rfl, _⟩ := h; rfl) | (obtain ⟨_, _, _, _, _, _, _, _, _, rfl, _⟩ := h; rfl)
  · skip
    refine ⟨_, (pss_cons (ps_set (i := 1) sc__law_pool.nd rfl (Or.inl rfl) (pe_op op_add pe_int (Fx.pe_cal C__law_pick (hr.mono (by decide)) pass0 (Fx.pa_c (pv 0) (Fx.pa_c pe_int pa_nil)))))
        (pss_cons (ps_if (pt_cmpR op_eq (Fx.pe_cal C__law_pick (hr.mono (by decide)) pass0 (Fx.pa_c (pv 0) (Fx.pa_c pe_int pa_nil))) pe_int (nomark _)) (pss_one (ps_set (i := 1) sc__law_pool.nd rfl (Or.inl rfl) (pe_op op_add pe_int (Fx.pe_cal C__law_pick (hr.mono (by decide)) pass0 (Fx.pa_c (pv 0) (Fx.pa_c pe_int pa_nil)))))) pss_nil)
        (pss_cons (ps_set (i := 2) sc__law_pool.nd rfl (Or.inl rfl) (pe_cmpR op_eq (Fx.pe_cal C__law_pick (hr.mono (by decide)) pass0 (Fx.pa_c (pv 0) (Fx.pa_c pe_int pa_nil))) pe_int (nomark _)))
        (pss_cons (ps_set (i := 3) sc__law_pool.nd rfl (Or.inl rfl) (pe_lst pa_nil))
        (pss_cons (ps_for PassesOwn.never rfl (pi_range1 rfl T.b_range (Fx.pa_c (pv 1) pa_nil)) (pg_name (i := 4) sc__law_pool.nd rfl (Or.inl rfl)) (pss_one (ps_if (pt_val (pv 2)) (pss_cons (ps_set (i := 5) sc__law_pool.nd rfl (Or.inl rfl) (pe_ix Fx.ix_L (pe_lst (Fx.pa_c pe_int (Fx.pa_c pe_int (Fx.pa_c pe_int (Fx.pa_c pe_int pa_nil))))) (Fx.pe_cal C__law_pick (hr.mono (by decide)) pass0 (Fx.pa_c (pv 0) (Fx.pa_c pe_int pa_nil))) (fun _ _ => rfl)))
        (pss_one (ps_expr (pe_bm PySem.F.plainAttrs_list PySem.F.slot_list_append PySem.F.type_list_append mt_append (pv 3) (Fx.pa_c (pe_m1 PySem.F.slot_str_join PySem.F.type_str_join Fx.mt_jn pe_str (pe_lc (own := [("_law_k", 6)]) rfl sc__law_pool.nd (pi_range1 rfl T.b_range (Fx.pa_c (pv 5) pa_nil)) (blkOk_by (N := N__law_pool) (sc := defScope s__law_pool) (by decide +kernel)) (fun _ _ _ _ _ => (pg_name (i := 6) sc__law_pool.nd rfl (Or.inl rfl))) (fun _ _ _ _ _ => pts_nil) (fun _ _ _ _ _ => (pe_ix Fx.ix_S pe_str (Fx.pe_cal C__law_pick (hr.mono (by decide)) pass0 (Fx.pa_c (pv 0) (Fx.pa_c pe_int pa_nil))) (fun _ _ => rfl))))) pa_nil))))) (pss_one (ps_expr (pe_bm PySem.F.plainAttrs_list PySem.F.slot_list_append PySem.F.type_list_append mt_append (pv 3) (Fx.pa_c (Fx.pe_cal C__law_word (hr.mono (by decide)) pass0 (Fx.pa_c (pv 0) pa_nil)) pa_nil)))))))
        (pss_cons (ps_if (pt_cmpR op_eq (Fx.pe_cal C__law_pick (hr.mono (by decide)) pass0 (Fx.pa_c (pv 0) (Fx.pa_c pe_int pa_nil))) pe_int (nomark _)) (pss_cons (ps_expr (pe_bm PySem.F.plainAttrs_list PySem.F.slot_list_append PySem.F.type_list_append mt_append (pv 3) (Fx.pa_c (pe_slice sl_str (pe_op Fx.op_mul_str (pe_ix Fx.ix_L (pv 3) pe_int (fun _ _ => rfl)) pe_int) po_none (po_some pe_int)) pa_nil)))
        (pss_one (ps_expr (pe_bm PySem.F.plainAttrs_list PySem.F.slot_list_append PySem.F.type_list_append mt_append (pv 3) (Fx.pa_c (pe_slice sl_str (pe_ix Fx.ix_L (pv 3) pe_int (fun _ _ => rfl)) po_none (po_some pe_int)) pa_nil))))) pss_nil)
        (pss_one (ps_ret (pv 3))))))))), ?_⟩
    obtain ⟨b, rfl, hB, q⟩ := h
    refine seqI fun K1 k1 => ?_
    walk_at "rd"
    refine ⟨b, 6, rfl, hB, by decide, by decide, fun m H1 m0 m1 kp1 => ⟨m, rfl, k1 _ _ ?_⟩⟩
    clear k1
    refine seqI fun K1 k1 => ?_
    have B1 := kp1.bag
    have go : ∀ (m : Int) (H2 : Hp), 1 ≤ m → m ≤ 28 → Kp b H H2 → K1 [some (V.ref b), some (V.int m), none, none, none, none, none] H2 := by
      intro m H2 m1 m28 kp2
      have B2 := kp2.bag
      refine k1 _ _ ?_
      clear k1
      refine seqI fun K1 k1 => ?_
      walk_at "rd"
      refine ⟨b, 2, rfl, B2, by decide, by decide, fun w H3 w0 w1 kp3 => ⟨rfl, k1 _ _ ?_⟩⟩
      clear k1
      generalize decide (V.int w = V.int 0) = plainly
      have B3 := kp3.bag
      refine seqI fun K1 k1 => ?_
      walk_at "rd"
      refine ⟨by decide, ?_⟩
      have kp := kp2.trans kp3
      intro pr nr
      generalize e_pr : upd H3 pr _ = H4
      have s4 := new_s nr e_pr
      have hr := new_h e_pr
      clear e_pr
      try (first | replace kp := s4 _ _ kp | replace kp := kp.same s4 | replace kp := kp.then s4 | replace kp := kp.trans s4)
      try (first | replace B3 := s4 _ _ B3 | replace B3 := B3.same s4 | replace B3 := B3.then s4 | replace B3 := B3.trans s4)
      have nr0 := (kp2.trans kp3).free nr
      refine k1 _ _ ?_
      clear k1
      refine seqI fun K1 k1 => ?_
      refine forI fun R kR => ?_
      walk_at "rd"
      refine ⟨by omega, by omega, kR _ _ ?_⟩
      clear kR
      refine for_range (lo := 0) (n := m.toNat) (fun i σ H' => ∃ (ys : List Str) (v4 v5 v6 : Option V), σ = [some (V.ref b), some (V.int m), some (.bl plainly), some (.ref pr), v4, v5, v6] ∧ ys.length = i ∧ (∀ y ∈ ys, isSW y = true) ∧ H' pr = some (.lst (ms ys)) ∧ Kp b H H') ⟨[], none, none, none, rfl, rfl, fun y h => (by cases h), hr, kp⟩ ?_ ?_
      · rintro i σ H5 hi ⟨ys, v4, v5, v6, rfl, ly, hy, hr5, kp5⟩
        clear k1
        have B5 := kp5.bag
        have put : ∀ (z : Str) (H6 : Hp), isSW z = true → Kp b H5 H6 → H6 pr = some (.lst (ms ys)) ∧ (ms ys).length < sizeLine ∧ (ms ys ++ [V.str z] = ms (ys ++ [z])) ∧ (ys ++ [z]).length = i + 1 ∧ (∀ y ∈ ys ++ [z], isSW y = true) ∧ Kp b H (upd H6 pr (.lst (ms ys ++ [V.str z]))) := fun z H6 hz kp6 => by
          refine ⟨kp6.lst B5 hr5, ?_, ?_, ?_, fun y h => ?_, Kp.put hB (kp5.trans kp6) nr0⟩
          · rw [List.length_map]
            exact Nat.lt_of_lt_of_le (by omega : _ < 100) (by decide)
          · rw [ms, ms, List.map_append]
            rfl
          · rw [List.length_append, ly]
            rfl
          · rcases List.mem_append.mp h with h | h
            · exact hy y h
            · rw [List.mem_singleton.mp h]
              exact hz
        refine ifI fun A B ka kb => ?_
        walk_at "rd"
        refine ite_i (fun _ => ka _ ?_) (fun _ => kb _ ?_)
        · clear ka kb
          refine seqI fun K1 k1 => ?_
          walk_at "rd"
          refine ⟨by decide, ?_⟩
          have kp50 := Kp.refl B5
          have B50 := B5
          intro u1 n1
          generalize e_u1 : upd H5 u1 _ = H6
          have t1 := new_s n1 e_u1
          have g1 := new_h e_u1
          clear e_u1
          try (first | replace kp50 := t1 _ _ kp50 | replace kp50 := kp50.same t1 | replace kp50 := kp50.then t1 | replace kp50 := kp50.trans t1)
          try (first | replace hr5 := t1 _ _ hr5 | replace hr5 := hr5.same t1 | replace hr5 := hr5.then t1 | replace hr5 := hr5.trans t1)
          try (first | replace B5 := t1 _ _ B5 | replace B5 := B5.same t1 | replace B5 := B5.then t1 | replace B5 := B5.trans t1)
          refine ⟨b, 4, rfl, B5, by decide, by decide, fun x H7 x0 x4 kp7 => ⟨_, rfl, ?_⟩⟩
          try (first | replace kp50 := Kp.lst kp7 B5 kp50 | replace kp50 := Kp.tup kp7 B5 kp50 | replace kp50 := Kp.ins kp7 B5 kp50 | replace kp50 := kp50.kp B5 kp7 | replace kp50 := Kp.trans kp50 kp7)
          try (first | replace hr5 := Kp.lst kp7 B5 hr5 | replace hr5 := Kp.tup kp7 B5 hr5 | replace hr5 := Kp.ins kp7 B5 hr5 | replace hr5 := hr5.kp B5 kp7 | replace hr5 := Kp.trans hr5 kp7)
          try (first | replace g1 := Kp.lst kp7 B5 g1 | replace g1 := Kp.tup kp7 B5 g1 | replace g1 := Kp.ins kp7 B5 g1 | replace g1 := g1.kp B5 kp7 | replace g1 := Kp.trans g1 kp7)
          replace B5 := Kp.bag kp7
          obtain ⟨sz_, es, e0, e7⟩ : ∃ d, atI [V.int 3, V.int 3, V.int 4, V.int 7] x = some (.int d) ∧ 3 ≤ d ∧ d ≤ 7 := by
            rcases (by omega : x = 0 ∨ x = 1 ∨ x = 2 ∨ x = 3) with rfl | rfl | rfl | rfl
            · exact ⟨_, rfl, by decide, by decide⟩
            · exact ⟨_, rfl, by decide, by decide⟩
            · exact ⟨_, rfl, by decide, by decide⟩
            · exact ⟨_, rfl, by decide, by decide⟩
          refine ⟨_, g1, _, es, k1 _ _ ?_⟩
          clear k1 es g1
          walk_at "rd"
          refine ⟨tyL hr5, ?_⟩
          refine ⟨_, rfl, sz_, rfl, by omega, by omega, fun D nD => ?_⟩
          have B7 := B5
          refine lc_range (lo := 0) (n := sz_.toNat) (fun i H8 => ∃ cs : List Nat, cs.length = i ∧ (∀ c ∈ cs, c ∈ letS.cps.toList) ∧ H8 D = some (.lst ((cs.map S1).map V.str)) ∧ Kp b H7 H8) ⟨[], rfl, fun c h => (by cases h), upd_same, Kp.put B7 (Kp.refl B7) nD⟩ ?_ ?_
          · rintro i2 H8 hi2 ⟨cs, hcs, hall, hD, kp8⟩
            refine ⟨rfl, ?_⟩
            walk_at "rd"
            refine ⟨b, 11, rfl, kp8.bag, by decide, by decide, fun r H9 r0 r1 kp9 => ?_⟩
            have l11 : ("etaonisrhld" : Str).cps.toList.length = 11 := by decide +kernel
            obtain ⟨c, hc, hm⟩ := atI_mem (xs := ("etaonisrhld" : Str).cps.toList) r0 (by rw [l11]; exact r1)
            have el : ∀ c ∈ (("etaonisrhld" : Str)).cps.toList, c ∈ letS.cps.toList := by decide +kernel
            refine ⟨r, rfl, by decide, c, hc, _, kp9.lst kp8.bag hD, ?_, cs ++ [c], ?_, ?_, ?_, Kp.put B7 (kp8.trans kp9) nD⟩
            · rw [List.length_map, List.length_map]
              exact Nat.lt_of_lt_of_le (by omega : _ < 100) (by decide)
            · rw [List.length_append, hcs]
              rfl
            · intro x hx
              rcases List.mem_append.mp hx with hx | hx
              · exact hall x hx
              · rw [List.mem_singleton.mp hx]
                exact el c hm
            · rw [List.map_append, List.map_append]
              rfl
          rintro H8 ⟨cs, hcs, hall, hD, kp8⟩
          have sw : isSW (Txt.join "" (cs.map S1)) = true := by
            refine isSW_of ?_ ?_ fun c hc => hall c (by rw [join_S1] at hc; exact hc)
            · rw [join_len]
              omega
            · rw [join_len]
              omega
          obtain ⟨p1, p2, p3, p4, p5, p6⟩ := put _ H8 sw (kp50.trans kp8)
          refine ⟨D, rfl, cs.map S1, hD, join_fits (by omega), _, p1, p2, ys ++ [Txt.join "" (cs.map S1)], p4, p5, p3, p6⟩
        · walk_at "rd"
          refine ⟨tyL hr5, b, rfl, B5, fun z H6 hz kp6 => ?_⟩
          obtain ⟨p1, p2, p3, p4, p5, p6⟩ := put z H6 hz kp6
          exact ⟨_, p1, p2, ys ++ [z], p4, p5, p3, p6⟩
      rintro σ H5 ⟨ys, v4, v5, v6, rfl, ly, hy, hr5, kp5⟩
      refine k1 _ _ ?_
      clear k1
      have B5 := kp5.bag
      obtain ⟨y0, r0, rfl⟩ : ∃ y r, ys = y :: r := by
        cases ys with
        | nil => rw [List.length_nil] at ly; omega
        | cons y r => exact ⟨y, r, rfl⟩
      have hy0 := hy y0 List.mem_cons_self
      have h0 := isSW_len hy0
      have all0 : ∀ w ∈ y0 :: r0, LetOk w := fun w hw => by
        have h := hy w hw
        have := isSW_len h
        exact ⟨by omega, by omega, fun c hc => isSW_mem h c hc⟩
      refine seqI fun K1 k1 => ?_
      have endq : ∀ (ws : List Str) (H6 : Hp), H6 pr = some (.lst (ms ws)) → ws.length ≤ 30 → 1 ≤ ws.length → (∀ w ∈ ws, LetOk w) → y0 ∈ ws → Kp b H H6 → K1 [some (V.ref b), some (V.int m), some (.bl plainly), some (.ref pr), v4, v5, v6] H6 := by
        intro ws H6 h6 l1 l2 hw hm kp6
        refine k1 _ _ ?_
        walk_at "rd"
        exact q pr ws H6 kp6 nr0 h6 l2 l1 hw ⟨y0, hm, hy0⟩
      refine ifI fun A B ka kb => ?_
      walk_at "rd"
      refine ⟨b, 4, rfl, B5, by decide, by decide, fun x H6 x0 x4 kp6 => ⟨rfl, ite_i (fun _ => ka _ ?_) (fun _ => kb _ ?_)⟩⟩
      · have h6 := kp6.lst B5 hr5
        have kp56 := kp5.trans kp6
        clear ka kb
        have l7 : (Txt.mul y0 7).length = 7 * y0.length := mul_len _ (by decide)
        refine seqI fun K2 k2 => ?_
        walk_at "rd"
        refine ⟨tyL h6, _, h6, _, atI_get (i := 0) rfl, y0, rfl, by decide, by decide, ?_, ?_, _, h6, ?_, k2 _ _ ?_⟩
        · show y0.length * 7 ≤ _
          omega
        · rw [l7]
          exact sz (by omega)
        · rw [List.length_map]
          exact Nat.lt_of_lt_of_le (by omega : _ < 100) (by decide)
        clear k2
        have ok1 : LetOk (cutS (Txt.mul y0 7) none (some 21)) := by
          have h1 := cut_hi (Txt.mul y0 7) 21 (by decide)
          refine ⟨?_, by omega, fun c hc => isSW_mem hy0 c (mul_mem (by decide) (cut_sub hc))⟩
          rw [cutS_len, sIx_nat' (by decide), HT.sIx_none, l7]
          omega
        generalize cutS (Txt.mul y0 7) none (some 21) = p1 at ok1
        have e8 : ms (y0 :: r0) ++ [.str p1] = ms (y0 :: r0 ++ [p1]) := by rw [ms, ms, List.map_append]; rfl
        rw [e8]
        have h8 : (upd H6 pr (.lst (ms (y0 :: r0 ++ [p1])))) pr = some (.lst (ms (y0 :: r0 ++ [p1]))) := upd_same
        have kp8 := Kp.put (o := .lst (ms (y0 :: r0 ++ [p1]))) hB kp56 nr0
        generalize upd H6 pr (.lst (ms (y0 :: r0 ++ [p1]))) = H8 at h8 kp8
        have ok2 : LetOk (cutS y0 none (some 2)) := by
          have h1 := cut_hi y0 2 (by decide)
          refine ⟨?_, by omega, fun c hc => isSW_mem hy0 c (cut_sub hc)⟩
          rw [cutS_len, sIx_nat' (by decide), HT.sIx_none]
          omega
        walk_at "rd"
        refine ⟨tyL h8, _, h8, _, atI_get (i := 0) rfl, y0, rfl, sz (by omega), _, h8, ?_, ?_⟩
        · rw [List.length_map, List.length_append]
          exact Nat.lt_of_lt_of_le (show _ + 1 < 100 by omega) (by decide)
        have e9 : ms (y0 :: r0 ++ [p1]) ++ [.str (cutS y0 none (some 2))] = ms (y0 :: r0 ++ [p1] ++ [cutS y0 none (some 2)]) := by simp [ms]
        rw [e9]
        refine endq (y0 :: r0 ++ [p1] ++ [cutS y0 none (some 2)]) _ upd_same ?_ (by simp) (fun w hw => ?_) (by simp) (Kp.put hB kp8 nr0)
        · rw [List.length_append, List.length_append]
          show _ + 1 + 1 ≤ 30
          omega
        · rcases List.mem_append.mp hw with hw | hw
          · rcases List.mem_append.mp hw with hw | hw
            · exact all0 w hw
            · rw [List.mem_singleton.mp hw]
              exact ok1
          · rw [List.mem_singleton.mp hw]
            exact ok2
      · walk_at "rd"
        exact endq _ H6 (kp6.lst B5 hr5) (by omega) (by rw [List.length_cons]; omega) all0 List.mem_cons_self (kp5.trans kp6)
    refine ifI fun A B ka kb => ?_
    walk_at "rd"
    refine ⟨b, 5, rfl, B1, by decide, by decide, fun k H2 k0 k5 kp2 => ⟨rfl, ite_i (fun _ => ka _ ?_) (fun _ => kb _ ?_)⟩⟩
    · walk_at "rd"
      refine ⟨b, 19, rfl, kp2.bag, by decide, by decide, fun r H3 r0 r1 kp3 => ⟨_, rfl, go _ _ (by omega) (by omega) ((kp1.trans kp2).trans kp3)⟩⟩
    · walk_at "rd"
      exact go _ _ (by omega) (by omega) (kp1.trans kp2)
end
section
variable {P : Program} {w : World} {K : PySem.W.Frag} {mg : Str → Option Value} {base : Heap}
theorem ok__law_rows (S : Src K mg "_law_rows" s__law_rows) (T : Tx P K mg) (C__law_pick : Cal P w K mg base CX0 1 "_law_pick" ["_law_bag_here", "_law_many"] spPick)  : Cal P w K mg base CX0 2 "_law_rows" ["_law_bag_here", "_law_pool_here"] spRowsB := by
  refine S.cal sc__law_rows bn__law_rows (fun vs H Q E h => ?_) (fun f cdv A outer s H vs Q E hr h => ?_)
  · first | (obtain ⟨rfl, _⟩ := h; rfl) | (obtain ⟨_, rfl, _⟩ := h; rfl) | (obtain ⟨_, _, rfl, _⟩ := h; rfl) | (obtain ⟨_, _, _, rfl, _⟩ := h; rfl) | (obtain ⟨_, _, _, _, rfl, _⟩ := h; rfl) | (obtain ⟨_, _, _, _, _, rfl, _⟩ := h; rfl) | (obtain ⟨_, _, _, _, _, _, rfl, _⟩ := h; rfl) | (obtain ⟨_, _, _, _, _, _, _, rfl, _⟩ := h; rfl) | (obtain ⟨_, _, _, _, _, _, _, _, rfl, _⟩ := h; rfl) | (obtain ⟨_, _, _, _, _, _, _, _, _, rfl, _⟩ := h; rfl)
  · skip
    refine ⟨_, (pss_cons (ps_setLc (i := 2) (own := [("_law_word_here", 8)]) rfl sc__law_rows.nd rfl rfl (sw_true rfl rfl rfl (by decide +kernel)) (pi_list (pv 1)) (blkOk_by (N := N__law_rows) (sc := defScope s__law_rows) (by decide +kernel)) (fun _ _ _ _ _ => (pg_name (i := 8) sc__law_rows.nd rfl (Or.inl rfl))) (fun _ _ _ _ _ => pts_nil) (fun _ _ _ _ _ => (pe_ix Fx.ix_L (pe_lst (Fx.pa_c pe_int (Fx.pa_c pe_int (Fx.pa_c pe_int (Fx.pa_c pe_int (Fx.pa_c pe_int (Fx.pa_c pe_int (Fx.pa_c pe_int (Fx.pa_c pe_int pa_nil))))))))) (Fx.pe_cal C__law_pick (hr.mono (by decide)) pass0 (Fx.pa_c (pv 0) (Fx.pa_c pe_int pa_nil))) (fun _ _ => rfl))))
        (pss_cons (ps_set (i := 3) sc__law_rows.nd rfl (Or.inl rfl) (pe_lst (Fx.pa_c pe_str (Fx.pa_c pe_str (Fx.pa_c pe_str (Fx.pa_c pe_str (Fx.pa_c pe_str (Fx.pa_c pe_str (Fx.pa_c pe_str (Fx.pa_c pe_str pa_nil))))))))))
        (pss_cons (ps_if (pt_cmpR op_ne (Fx.pe_cal C__law_pick (hr.mono (by decide)) pass0 (Fx.pa_c (pv 0) (Fx.pa_c pe_int pa_nil))) pe_int (nomark _)) (pss_one (ps_set (i := 3) sc__law_rows.nd rfl (Or.inl rfl) (pe_slice Fx.sl_L (pv 3) po_none (po_some pe_int)))) pss_nil)
        (pss_cons (ps_set (i := 4) sc__law_rows.nd rfl (Or.inl rfl) (pe_lst (Fx.pa_c pe_str pa_nil)))
        (pss_cons (ps_for PassesOwn.never rfl (pi_range1 rfl T.b_range (Fx.pa_c pe_int pa_nil)) (pg_name (i := 5) sc__law_rows.nd rfl (Or.inl rfl)) (pss_one (ps_for PassesOwn.never rfl (pi_range1 rfl T.b_range (Fx.pa_c (Fx.pe_cB Fx.len_L T.b_len (by decide +kernel) (Fx.pa_c (pv 1) pa_nil)) pa_nil)) (pg_name (i := 6) sc__law_rows.nd rfl (Or.inl rfl)) (pss_one (ps_if (pt_cmpR op_lt (pv 5) (pe_ix Fx.ix_L (pv 2) (pv 6) (fun _ _ => rfl)) (nomark _)) (pss_cons (ps_set (i := 7) sc__law_rows.nd rfl (Or.inl rfl) (pe_op op_add_str (pe_ix Fx.ix_L (pv 1) (pv 6) (fun _ _ => rfl)) (pe_ix Fx.ix_L (pv 3) (Fx.pe_cal C__law_pick (hr.mono (by decide)) pass0 (Fx.pa_c (pv 0) (Fx.pa_c (Fx.pe_cB Fx.len_L T.b_len (by decide +kernel) (Fx.pa_c (pv 3) pa_nil)) pa_nil))) (fun _ _ => rfl))))
        (pss_cons (ps_if (PW.pt (pw_or (pt_cmpR op_gt (pe_op op_add (Fx.pe_cB Fx.len_S T.b_len (by decide +kernel) (Fx.pa_c (pe_ix Fx.ix_L (pv 4) (pe_un un_neg pe_int) (fun _ _ => rfl)) pa_nil)) (Fx.pe_cB Fx.len_S T.b_len (by decide +kernel) (Fx.pa_c (pv 7) pa_nil))) pe_int (nomark _)) (pw_or1 (pt_cmpR op_eq (Fx.pe_cal C__law_pick (hr.mono (by decide)) pass0 (Fx.pa_c (pv 0) (Fx.pa_c pe_int pa_nil))) pe_int (nomark _))))) (pss_one (ps_expr (pe_bm PySem.F.plainAttrs_list PySem.F.slot_list_append PySem.F.type_list_append mt_append (pv 4) (Fx.pa_c pe_str pa_nil)))) pss_nil)
        (pss_one (ps_asg (pe_op op_add_str (pe_ix Fx.ix_L (pv 4) (pe_un un_neg pe_int) (fun _ _ => rfl)) (pv 7)) (pg_sub (pv 4) (pe_un un_neg pe_int) set_list))))) pss_nil)))))
        (pss_one (ps_ret (pv 4)))))))), ?_⟩
    obtain ⟨b, p, ws, rfl, hB, hp, l1, l2, hw, q⟩ := h
    have hp0 := hp
    refine seqI fun K1 k1 => ?_
    walk_at "rd"
    refine ⟨_, rfl, p, rfl, ⟨_, .inl (.inl hp)⟩, fun D1 nD1 => ?_⟩
    refine lc_list (K := K) (a := p) (xs := ms ws) (fun i H' => ∃ cs : List Int, cs.length = i ∧ H' D1 = some (.lst (mi cs)) ∧ (∀ c ∈ cs, 0 ≤ c ∧ c ≤ 9) ∧ Kp b H H') ⟨[], rfl, upd_same, fun a ha => (by cases ha), Kp.put hB (Kp.refl hB) nD1⟩ (fun j H' _ ⟨_, _, _, _, k⟩ => .inl (.inl (k.lst hB hp0))) ?_ ?_
    · rintro i y H2 hy ⟨cs, lc, hD1, hcs, kp2⟩
      have hi := (List.getElem?_eq_some_iff.mp hy).1
      rw [List.length_map] at hi
      have B2 := kp2.bag
      refine ⟨rfl, ?_⟩
      walk_at "rd"
      refine ⟨by decide, ?_⟩
      intro u1 n1
      generalize e_u1 : upd H2 u1 _ = H3
      have t1 := new_s n1 e_u1
      have g1 := new_h e_u1
      clear e_u1
      try (first | replace B2 := t1 _ _ B2 | replace B2 := B2.same t1 | replace B2 := B2.then t1 | replace B2 := B2.trans t1)
      try (first | replace kp2 := t1 _ _ kp2 | replace kp2 := kp2.same t1 | replace kp2 := kp2.then t1 | replace kp2 := kp2.trans t1)
      try (first | replace hD1 := t1 _ _ hD1 | replace hD1 := hD1.same t1 | replace hD1 := hD1.then t1 | replace hD1 := hD1.trans t1)
      refine ⟨b, 8, rfl, B2, by decide, by decide, fun x H4 x0 x8 kp4 => ⟨_, rfl, ?_⟩⟩
      try (first | replace kp2 := Kp.lst kp4 B2 kp2 | replace kp2 := Kp.tup kp4 B2 kp2 | replace kp2 := Kp.ins kp4 B2 kp2 | replace kp2 := kp2.kp B2 kp4 | replace kp2 := Kp.trans kp2 kp4)
      try (first | replace hD1 := Kp.lst kp4 B2 hD1 | replace hD1 := Kp.tup kp4 B2 hD1 | replace hD1 := Kp.ins kp4 B2 hD1 | replace hD1 := hD1.kp B2 kp4 | replace hD1 := Kp.trans hD1 kp4)
      try (first | replace g1 := Kp.lst kp4 B2 g1 | replace g1 := Kp.tup kp4 B2 g1 | replace g1 := Kp.ins kp4 B2 g1 | replace g1 := g1.kp B2 kp4 | replace g1 := Kp.trans g1 kp4)
      replace B2 := Kp.bag kp4
      obtain ⟨d, ed, d0, d9⟩ : ∃ d, atI [V.int 1, V.int 2, V.int 2, V.int 3, V.int 4, V.int 6, V.int 6, V.int 9] x = some (.int d) ∧ 0 ≤ d ∧ d ≤ 9 := by
        rcases (by omega : x = 0 ∨ x = 1 ∨ x = 2 ∨ x = 3 ∨ x = 4 ∨ x = 5 ∨ x = 6 ∨ x = 7) with rfl | rfl | rfl | rfl | rfl | rfl | rfl | rfl <;> exact ⟨_, rfl, by decide, by decide⟩
      refine ⟨_, g1, _, ed, _, hD1, ?_, cs ++ [d], ?_, ?_, fun c hc => ?_, Kp.put hB kp2 nD1⟩
      · rw [mi_len]
        exact Nat.lt_of_lt_of_le (by omega : _ < 100) (by decide)
      · rw [List.length_append, lc]
        rfl
      · rw [mi_app]
        rfl
      · rcases List.mem_append.mp hc with hc | hc
        · exact hcs c hc
        · rw [List.mem_singleton.mp hc]
          exact ⟨d0, d9⟩
    rintro H2 ⟨cs, lc, hD1, hcs, kp2⟩
    rw [List.length_map] at lc
    refine k1 _ _ ?_
    clear k1
    have B2 := kp2.bag
    have nD10 := nD1
    refine seqI fun K1 k1 => ?_
    walk_at "rd"
    refine ⟨by decide, ?_⟩
    have hp2 := kp2.lst hB hp0
    intro ps nps
    generalize e_ps : upd H2 ps _ = H3
    have s3 := new_s nps e_ps
    have hs := new_h e_ps
    clear e_ps
    try (first | replace B2 := s3 _ _ B2 | replace B2 := B2.same s3 | replace B2 := B2.then s3 | replace B2 := B2.trans s3)
    try (first | replace kp2 := s3 _ _ kp2 | replace kp2 := kp2.same s3 | replace kp2 := kp2.then s3 | replace kp2 := kp2.trans s3)
    try (first | replace hD1 := s3 _ _ hD1 | replace hD1 := hD1.same s3 | replace hD1 := hD1.then s3 | replace hD1 := hD1.trans s3)
    try (first | replace hp2 := s3 _ _ hp2 | replace hp2 := hp2.same s3 | replace hp2 := hp2.then s3 | replace hp2 := hp2.trans s3)
    refine k1 _ _ ?_
    clear k1
    refine seqI fun K1 k1 => ?_
    have go : ∀ (sl : List Str) (ps : Addr) (H4 : Hp), Kp b H H4 → H4 p = some (.lst (ms ws)) → H4 D1 = some (.lst (mi cs)) → H4 ps = some (.lst (ms sl)) → 1 ≤ sl.length → sl.length ≤ 8 → (∀ s ∈ sl, s.length ≤ 1 ∧ ∀ c ∈ s.cps.toList, c ∈ signs1.cps.toList) → K1 [some (.ref b), some (.ref p), some (.ref D1), some (.ref ps), none, none, none, none, none] H4 := by
      intro sl ps H4 kp4 hp4 hD4 hs4 sl1 sl8 hsl
      refine k1 _ _ ?_
      clear k1 hs B2 kp2 hD1 hp2 s3 nps
      refine seqI fun K1 k1 => ?_
      walk_at "rd"
      refine ⟨by decide, ?_⟩
      have B4 := kp4.bag
      have fr4 : ∀ a, H4 a = none → H a = none := fun a n => kp4.free n
      have npA : ∀ pr : Addr, H4 pr = none → p ≠ pr ∧ D1 ≠ pr ∧ ps ≠ pr := fun pr nr => ⟨fun e => (by rw [← e, hp4] at nr; cases nr), fun e => (by rw [← e, hD4] at nr; cases nr), fun e => (by rw [← e, hs4] at nr; cases nr)⟩
      intro pr nr
      generalize e_pr : upd H4 pr _ = H5
      have s5 := new_s nr e_pr
      have hr := new_h e_pr
      clear e_pr
      try (first | replace B4 := s5 _ _ B4 | replace B4 := B4.same s5 | replace B4 := B4.then s5 | replace B4 := B4.trans s5)
      try (first | replace kp4 := s5 _ _ kp4 | replace kp4 := kp4.same s5 | replace kp4 := kp4.then s5 | replace kp4 := kp4.trans s5)
      try (first | replace hp4 := s5 _ _ hp4 | replace hp4 := hp4.same s5 | replace hp4 := hp4.then s5 | replace hp4 := hp4.trans s5)
      try (first | replace hD4 := s5 _ _ hD4 | replace hD4 := hD4.same s5 | replace hD4 := hD4.then s5 | replace hD4 := hD4.trans s5)
      try (first | replace hs4 := s5 _ _ hs4 | replace hs4 := hs4.same s5 | replace hs4 := hs4.then s5 | replace hs4 := hs4.trans s5)
      obtain ⟨npp, npD, npS⟩ := npA pr nr
      refine k1 _ _ ?_
      clear k1
      have kp5 := kp4
      have B5 := B4
      have nr0 := fr4 _ nr
      refine seqI fun K1 k1 => ?_
      refine forI fun R kR => ?_
      walk_at "rd"
      refine ⟨by decide, by decide, kR _ _ ?_⟩
      clear kR
      obtain ⟨I, hI⟩ : ∃ I : Nat → Hp → Prop, I = fun n H' => (∃ zs : List Str, H' pr = some (.lst (ms zs)) ∧ 1 ≤ zs.length ∧ zs.length ≤ 1 + n ∧ GoodT zs) ∧ Kp b H H' ∧ H' p = some (.lst (ms ws)) ∧ H' D1 = some (.lst (mi cs)) ∧ H' ps = some (.lst (ms sl)) := ⟨_, rfl⟩
      have I0 : I 0 H5 := by
        rw [hI]
        exact ⟨⟨[""], hr, Nat.le_refl _, Nat.le_refl _, fun z hz => by rw [List.mem_singleton.mp hz]; decide +kernel⟩, kp5, hp4, hD4, hs4⟩
      refine for_range (lo := 0) (n := 9) (fun i σ H' => ∃ v5 v6 v7, σ = [some (.ref b), some (.ref p), some (.ref D1), some (.ref ps), some (.ref pr), v5, v6, v7, none] ∧ I (i * ws.length) H') ⟨none, none, none, rfl, by rw [Nat.zero_mul]; exact I0⟩ ?_ ?_
      · rintro i σ H6 hi ⟨v5, v6, v7, rfl, h6⟩
        clear k1
        show tFor _ _ _ _ _ _
        refine forI fun R kR => ?_
        have hp6 : H6 p = some (.lst (ms ws)) := by rw [hI] at h6; exact h6.2.2.1
        walk_at "rd"
        refine ⟨_, hp6, by rw [List.length_map]; omega, by rw [List.length_map]; omega, kR _ _ ?_⟩
        clear kR
        rw [List.length_map, Int.toNat_natCast]
        refine for_range (lo := 0) (n := ws.length) (fun k σ H' => ∃ v6 v7, σ = [some (.ref b), some (.ref p), some (.ref D1), some (.ref ps), some (.ref pr), some (.int (0 + (i : Nat))), v6, v7, none] ∧ I (i * ws.length + k) H') ⟨v6, v7, rfl, h6⟩ ?_ ?_
        · rintro k σ H7 hk ⟨v6, v7, rfl, h7⟩
          have h7' := h7
          rw [hI] at h7'
          obtain ⟨⟨zs, h7r, lz1, lz2, gz⟩, kp7, hp7, hD7, hs7⟩ := h7'
          have B7 := kp7.bag
          have lb : i * ws.length + k ≤ 270 := by
            have : i * ws.length ≤ 8 * ws.length := Nat.mul_le_mul_right _ (by omega)
            omega
          have hkc : k < cs.length := by omega
          have hw7 := hw _ (List.getElem_mem hk)
          have skip : I (i * ws.length + (k + 1)) H7 := by
            rw [hI] at h7 ⊢
            exact ⟨⟨zs, h7r, lz1, by omega, gz⟩, kp7, hp7, hD7, hs7⟩
          refine ifI fun A B ka kb => ?_
          walk_at "rd"
          refine ⟨_, hD7, _, by rw [Int.zero_add]; exact atI_get (xs := mi cs) (i := k) (by rw [List.getElem?_map, List.getElem?_eq_getElem hkc]; rfl), _, rfl, ite_i (fun _ => ka _ ?_) (fun _ => kb _ ?_)⟩
          · clear ka kb
            refine seqI fun K1 k1 => ?_
            walk_at "rd"
            refine ⟨_, hp7, _, by rw [Int.zero_add]; exact atI_get (xs := ms ws) (i := k) (by rw [List.getElem?_map, List.getElem?_eq_getElem hk]; rfl), _, hs7, b, _, rfl, B7, by rw [List.length_map]; omega, by rw [List.length_map]; omega, fun y H8 y0 y1 kp8 => ?_⟩
            rw [List.length_map] at y1
            obtain ⟨yn, rfl⟩ : ∃ n : Nat, y = (n : Int) := ⟨y.toNat, by omega⟩
            have hy : yn < sl.length := by omega
            obtain ⟨lsg, csg⟩ := hsl _ (List.getElem_mem hy)
            have h8r := kp8.lst B7 h7r
            have hp8 := kp8.lst B7 hp7
            have hD8 := kp8.lst B7 hD7
            have hs8 := kp8.lst B7 hs7
            have B8 := kp8.bag
            refine ⟨_, rfl, _, hs8, _, atI_get (xs := ms sl) (i := yn) (by rw [List.getElem?_map, List.getElem?_eq_getElem hy]; rfl), ws[k], rfl, sl[yn], rfl, sz (by have := hw7.2.1; omega), k1 _ _ ?_⟩
            clear k1
            have lpc : (ws[k] ++ sl[yn]).length ≤ 23 := by
              rw [len_app]
              have := hw7.2.1
              omega
            have cpc : ∀ c ∈ (ws[k] ++ sl[yn]).cps.toList, c ∈ signs1.cps.toList := fun c hc => by
              rw [list_app, List.mem_append] at hc
              exact hc.elim (fun h => let1 c (hw7.2.2 c h)) (csg c)
            generalize ws[k] ++ sl[yn] = pc at lpc cpc
            refine seqI fun K1 k1 => ?_
            have fin : ∀ (zs : List Str) (z : Str) (H9 : Hp), H9 pr = some (.lst (ms (zs ++ [z]))) → zs.length + 1 ≤ 1 + (i * ws.length + (k + 1)) → GoodT zs → judge z = none → z.length + pc.length ≤ 200 → Kp b H H9 → H9 p = some (.lst (ms ws)) → H9 D1 = some (.lst (mi cs)) → H9 ps = some (.lst (ms sl)) → K1 [some (.ref b), some (.ref p), some (.ref D1), some (.ref ps), some (.ref pr), some (.int (0 + (i : Nat))), some (.int (0 + (k : Nat))), some (.str pc), none] H9 := by
              intro zs z H9 h9 l9 gz jz lz kp9 hp9 hD9 hs9
              refine k1 _ _ ?_
              walk_at "rd"
              have ez : atI (ms (zs ++ [z])) (-1) = some (.str z) := by rw [ms, List.map_append]; exact atI_last
              refine ⟨_, h9, _, ez, z, rfl, sz (by omega), _, h9, zs.length, by rw [List.length_map, List.length_append]; exact ixN_last, ?_⟩
              rw [hI]
              have eset : (ms (zs ++ [z])).set zs.length (.str (z ++ pc)) = ms (zs ++ [z ++ pc]) := by simp [ms]
              rw [eset]
              refine ⟨⟨zs ++ [z ++ pc], upd_same, ?_, ?_, fun y hy => ?_⟩, Kp.put hB kp9 nr0, ?_, ?_, ?_⟩
              · rw [List.length_append]
                show 1 ≤ _ + 1
                omega
              · rw [List.length_append]
                show _ + 1 ≤ _
                omega
              · rcases List.mem_append.mp hy with hy | hy
                · exact gz y hy
                · rw [List.mem_singleton.mp hy]
                  unfold judge
                  rw [len_app, if_neg (by omega)]
                  refine firstBad_none _ _ fun c hc => ?_
                  rw [list_app, List.mem_append] at hc
                  exact hc.elim (judge_all jz c) (cpc c)
              · rw [upd_ne npp]
                exact hp9
              · rw [upd_ne npD]
                exact hD9
              · rw [upd_ne npS]
                exact hs9
            refine ifI fun A B ka kb => ?_
            walk_at "rd"
            obtain ⟨zi, zl, rfl⟩ : ∃ a z, zs = a ++ [z] := ⟨zs.dropLast, zs.getLast (fun e => by rw [e] at lz1; exact absurd lz1 (by decide)), (List.dropLast_concat_getLast _).symm⟩
            have jl := gz zl (by simp)
            have ll := judge_len jl
            have gi : GoodT zi := fun z hz => gz z (by simp [hz])
            have ez : atI (ms (zi ++ [zl])) (-1) = some (.str zl) := by rw [ms, List.map_append]; exact atI_last
            rw [List.length_append] at lz2
            have l1 : [zl].length = 1 := rfl
            have newrow : ∀ H9, Kp b H8 H9 → A H9 := fun H9 kp9 => by
              refine ka _ ?_
              walk_at "rd"
              refine ⟨tyL (kp9.lst B8 h8r), _, kp9.lst B8 h8r, ?_, ?_⟩
              · rw [List.length_map, List.length_append]
                exact Nat.lt_of_lt_of_le (by omega : _ < 1000) (by decide)
              have ee : ms (zi ++ [zl]) ++ [V.str (Str.ofString "")] = ms (zi ++ [zl] ++ [("" : Str)]) := by simp [ms]
              rw [ee]
              have j0 : judge ("" : Str) = none := by decide +kernel
              refine fin (zi ++ [zl]) "" _ upd_same ?_ gz j0 ?_ (Kp.put hB ((kp7.trans kp8).trans kp9) nr0) ?_ ?_ ?_
              · rw [List.length_append]
                omega
              · show 0 + pc.length ≤ 200
                omega
              · rw [upd_ne npp]
                exact kp9.lst B8 hp8
              · rw [upd_ne npD]
                exact kp9.lst B8 hD8
              · rw [upd_ne npS]
                exact kp9.lst B8 hs8
            refine ⟨_, h8r, _, ez, zl, rfl, sz (by omega), sz (by omega), ite_i (fun _ => newrow H8 (Kp.refl B8)) (fun g => ?_)⟩
            refine ⟨b, 24, rfl, B8, by decide, by decide, fun x2 H9 a0 a1 kp9 => ⟨rfl, ite_i (fun _ => newrow H9 kp9) (fun _ => kb _ ?_)⟩⟩
            walk_at "rd"
            exact fin zi zl H9 (kp9.lst B8 h8r) (by omega) gi jl (by omega) ((kp7.trans kp8).trans kp9) (kp9.lst B8 hp8) (kp9.lst B8 hD8) (kp9.lst B8 hs8)
          · walk_at "rd"
            exact skip
        rintro σ H7 ⟨v6, v7, rfl, h7⟩
        refine ⟨_, _, _, rfl, ?_⟩
        rw [Nat.add_mul, Nat.one_mul]
        exact h7
      rintro σ H6 ⟨v5, v6, v7, rfl, h6⟩
      refine k1 _ _ ?_
      rw [hI] at h6
      obtain ⟨⟨zs, h6r, lz1, lz2, gz⟩, kp6, _⟩ := h6
      walk_at "rd"
      exact q pr zs H6 kp6 nr0 h6r gz lz1 (by omega)
    have sgs : ∀ s ∈ [(" " : Str), ".", "\n", "A", "7", "'", "-", ""], s.length ≤ 1 ∧ ∀ c ∈ s.cps.toList, c ∈ signs1.cps.toList := by decide +kernel
    refine ifI fun A B ka kb => ?_
    walk_at "rd"
    refine ⟨b, 3, rfl, B2, by decide, by decide, fun x H4 x0 x3 kp4 => ⟨rfl, ite_i (fun _ => kb _ ?_) (fun _ => ka _ ?_)⟩⟩
    · walk_at "rd"
      exact go [" ", ".", "\n", "A", "7", "'", "-", ""] ps H4 (kp2.trans kp4) (kp4.lst B2 hp2) (kp4.lst B2 hD1) (kp4.lst B2 hs) (by decide) (by decide) sgs
    · have hs4 := kp4.lst B2 hs
      walk_at "rd"
      refine ⟨_, hs4, fun q4 n4 => ?_⟩
      have t4 := same_new (o := .lst (ms [" ", ".", "\n", "A", "7", "'", "-"])) n4
      exact go [" ", ".", "\n", "A", "7", "'", "-"] q4 _ ((kp2.trans kp4).then t4) (t4 _ _ (kp4.lst B2 hp2)) (t4 _ _ (kp4.lst B2 hD1)) upd_same (by decide) (by decide) fun s hs => sgs s (List.mem_append_left [("" : Str)] hs)
end
section
variable {P : Program} {w : World} {K : PySem.W.Frag} {mg : Str → Option Value} {base : Heap}
theorem ok__law_runs (S : Src K mg "_law_runs" s__law_runs) (T : Tx P K mg) (C__law_pieces : Cal P w K mg base CX0 1 "_law_pieces" ["_law_text"] spPieces) (C__law_distinct : Cal P w K mg base CX0 1 "_law_distinct" ["_law_words"] spDist) (C__law_cost : Cal P w K mg base CX0 2 "_law_cost" ["_law_text"] spCost)  : Cal P w K mg base CX0 3 "_law_runs" ["_law_rows_here"] spRunsT := by
  refine S.cal sc__law_runs bn__law_runs (fun vs H Q E h => ?_) (fun f cdv A outer s H vs Q E hr h => ?_)
  · first | (obtain ⟨rfl, _⟩ := h; rfl) | (obtain ⟨_, rfl, _⟩ := h; rfl) | (obtain ⟨_, _, rfl, _⟩ := h; rfl) | (obtain ⟨_, _, _, rfl, _⟩ := h; rfl) | (obtain ⟨_, _, _, _, rfl, _⟩ := h; rfl) | (obtain ⟨_, _, _, _, _, rfl, _⟩ := h; rfl) | (obtain ⟨_, _, _, _, _, _, rfl, _⟩ := h; rfl) | (obtain ⟨_, _, _, _, _, _, _, rfl, _⟩ := h; rfl) | (obtain ⟨_, _, _, _, _, _, _, _, rfl, _⟩ := h; rfl) | (obtain ⟨_, _, _, _, _, _, _, _, _, rfl, _⟩ := h; rfl)
  · skip
    refine ⟨_, (pss_cons (ps_set (i := 1) sc__law_runs.nd rfl (Or.inr rfl) (pe_lst pa_nil))
        (pss_cons (ps_for PassesOwn.never rfl (pi_list (pv 0)) (pg_name (i := 2) sc__law_runs.nd rfl (Or.inl rfl)) (pss_one (ps_for PassesOwn.never rfl (pi_list (Fx.pe_cal C__law_pieces (hr.mono (by decide)) pass0 (Fx.pa_c (pv 2) pa_nil))) (pg_name (i := 3) sc__law_runs.nd rfl (Or.inl rfl)) (pss_one (ps_if (pt_chain op_le op_le pe_int (Fx.pe_cB Fx.len_S T.b_len (by decide +kernel) (Fx.pa_c (pv 3) pa_nil)) pe_int) (pss_one (ps_expr (pe_bm PySem.F.plainAttrs_list PySem.F.slot_list_append PySem.F.type_list_append mt_append (pv 1) (Fx.pa_c (pv 3) pa_nil)))) pss_nil)))))
        (pss_one (ps_ret (pe_lc (own := [("_law_word_here", 4)]) rfl sc__law_runs.nd (pi_list (Fx.pe_cal C__law_distinct (hr.mono (by decide)) pass0 (Fx.pa_c (pv 1) pa_nil))) (blkOk_by (N := N__law_runs) (sc := defScope s__law_runs) (by decide +kernel)) (fun _ _ _ _ _ => (pg_name (i := 4) sc__law_runs.nd rfl (Or.inl rfl))) (fun _ _ _ _ _ => pts_nil) (fun _ _ _ _ _ => (pe_lst (Fx.pa_c (pv 4) (Fx.pa_c (Fx.pe_cal C__law_cost (hr.mono (by decide)) pass0 (Fx.pa_c (pv 4) pa_nil)) (Fx.pa_c (Fx.pe_bmK (K := K) rfl PySem.F.plainAttrs_list PySem.F.slot_list_count PySem.F.type_list_count Fx.cnt_L (pv 1) (Fx.pa_c (pv 4) pa_nil)) pa_nil)))))))))), ?_⟩
    obtain ⟨p, zs, rfl, hp, hg, hl, q⟩ := h
    have hp00 := hp
    refine seqI fun K1 k1 => ?_
    walk_at "rd"
    refine ⟨by decide, ?_⟩
    intro pf nf
    generalize e_pf : upd H pf _ = H1
    have s1 := new_s nf e_pf
    have hf := new_h e_pf
    clear e_pf
    try (first | replace hp := s1 _ _ hp | replace hp := hp.same s1 | replace hp := hp.then s1 | replace hp := hp.trans s1)
    refine k1 _ _ ?_
    clear k1
    refine seqI fun K1 k1 => ?_
    refine ⟨_, rfl, p, rfl, ⟨_, .inl (.inl hp)⟩, ?_⟩
    refine for_list (K := K) (a := p) (xs := ms zs) (fun i σ H' => ∃ v2 v3, σ = [some (.ref p), some (.ref pf), v2, v3, none] ∧ H' pf = some (.lst (ms (words (zs.take i)))) ∧ Same H H') ⟨none, none, rfl, hf, s1⟩ (fun i σ H' _ ⟨_, _, _, _, s⟩ => .inl (.inl (s _ _ hp00))) ?_ ?_
    · rintro i y σ H2 hy ⟨v2, v3, rfl, h2, s2⟩
      clear k1
      obtain ⟨z, rfl, hz, eg, hi, ei⟩ := ms_get hy
      have jz := hg z hz
      have lz := judge_len jz
      have tk : words (zs.take (i + 1)) = words (zs.take i) ++ words1 z := by
        unfold words
        rw [List.take_add_one, ei, List.map_append, List.flatten_append]
        simp
      rw [tk]
      show tFor _ _ _ _ _ _
      refine forI fun R kR => ?_
      walk_at "rd"
      refine ⟨z, rfl, by omega, fun pp H3 s3 np hpp => ⟨pp, rfl, ⟨_, .inl (.inl hpp)⟩, kR _ _ ?_⟩⟩
      clear kR
      have wl := words_len hg i
      have pm := pieces_many z
      have npf : pp ≠ pf := fun e => by rw [e, h2] at np; cases np
      refine for_list (K := K) (a := pp) (xs := ms (pieces z)) (fun j σ H' => ∃ v3, σ = [some (.ref p), some (.ref pf), some (.str z), v3, none] ∧ H' pf = some (.lst (ms (words (zs.take i) ++ ((pieces z).take j).filter isSW))) ∧ H' pp = some (.lst (ms (pieces z))) ∧ Same H H') ⟨v3, rfl, by simpa using s3 _ _ h2, hpp, s2.trans s3⟩ (fun j σ H' _ ⟨_, _, _, e, _⟩ => .inl (.inl e)) ?_ ?_
      · rintro j y σ H4 hy ⟨v3, rfl, h4, hpp4, s4⟩
        obtain ⟨w, rfl, hw, eg, hj, ej⟩ := ms_get hy
        obtain ⟨p1, p2⟩ := pieces_len hw
        have hR := isSW_piece hw
        have tj : ((pieces z).take (j + 1)).filter isSW = ((pieces z).take j).filter isSW ++ (if isSW w = true then [w] else []) := by
          rw [List.take_add_one, ej, List.filter_append]
          by_cases h : isSW w = true
          · rw [if_pos h]
            show _ ++ List.filter isSW [w] = _
            rw [List.filter_cons_of_pos h]
            rfl
          · rw [if_neg h]
            show _ ++ List.filter isSW [w] = _
            rw [List.filter_cons_of_neg h]
            rfl
        rw [tj]
        have hL := isSW_len_iff hw
        have skip : isSW w = false → H4 pf = some (HO.lst (ms (words (List.take i zs) ++ (List.filter isSW (List.take j (pieces z)) ++ if isSW w = true then [w] else [])))) := fun e => by
          rw [e, if_neg (by decide), List.append_nil]
          exact h4
        walk_at "rd"
        refine ⟨sz (by omega), ite_i (fun g1 => ite_i (fun g2 => ?_) (fun g2 => ⟨skip ?_, hpp4, s4⟩)) (fun g1 => ⟨skip ?_, hpp4, s4⟩)⟩
        · refine ⟨tyL h4, _, h4, ?_, ?_, ?_, Same.put s4 nf⟩
          · rw [List.length_map, List.length_append]
            have l1 := List.length_filter_le isSW (List.take j (pieces z))
            rw [List.length_take] at l1
            exact Nat.lt_of_lt_of_le (by omega : _ < 100000) (by decide)
          · rw [hL, decide_eq_true (by omega : 3 ≤ w.length), decide_eq_true (by omega : w.length ≤ 20), if_pos (by rfl)]
            simp [ms]
          · rw [upd_ne npf]
            exact hpp4
        · rw [hL, decide_eq_false (by omega : ¬ w.length ≤ 20), Bool.and_false]
        · rw [hL, decide_eq_false (by omega : ¬ 3 ≤ w.length), Bool.false_and]
      rintro σ H4 ⟨v3, rfl, h4, hpp4, s4⟩
      refine ⟨_, _, rfl, ?_, s4⟩
      rw [h4, List.length_map, List.take_of_length_le (Nat.le_refl _)]
      rfl
    rintro σ H2 ⟨v2, v3, rfl, h2, s2⟩
    refine k1 _ _ ?_
    clear k1
    rw [List.length_map, List.take_of_length_le (Nat.le_refl _)] at h2
    have wl := words_len hg zs.length
    rw [List.take_length] at wl
    walk_at "rd"
    refine ⟨_, rfl, pf, _, rfl, h2, ?_, fun pd D H3 s3 dD nd hd => ⟨pd, rfl, ⟨_, .inl (.inl hd)⟩, fun D1 nD1 => ?_⟩⟩
    · omega
    have sw : ∀ w ∈ D, isSW w = true := fun f hf => by
      obtain ⟨z, _, _, h⟩ := mem_words.mp ((dD.2.2 f).mp hf)
      exact h
    have lD : D.length ≤ 60000 := by
      have := dist_len dD
      omega
    have hf3 := s3 _ _ h2
    obtain ⟨GB, hGB⟩ : ∃ GB : Nat → Hp → Prop, GB = fun i H' => (∃ as : List Addr, as.length = i ∧ H' D1 = some (.lst (as.map V.ref)) ∧ (∀ (j : Nat) (a : Addr) (w : Str), as[j]? = some a → D[j]? = some w → H' a = some (.lst [.str w, .int (cst w : Nat), .int ((words zs).count w : Nat)]))) ∧ Same H3 H' := ⟨_, rfl⟩
    have GB0 : GB 0 (upd H3 D1 (.lst [])) := by
      rw [hGB]
      exact ⟨⟨[], rfl, upd_same, fun j a w e _ => (by cases e)⟩, same_new nD1⟩
    refine lc_list (K := K) (a := pd) (xs := ms D) GB GB0 (fun i H' _ h => by rw [hGB] at h; exact .inl (.inl (h.2 _ _ hd))) ?_ ?_
    · rintro i y H4 hy h
      rw [hGB] at h ⊢
      obtain ⟨⟨as, la, hD1, ht⟩, s4⟩ := h
      obtain ⟨w, rfl, hw, eg, hi, ei⟩ := ms_get hy
      have lw := isSW_len (sw w hw)
      refine ⟨rfl, ?_⟩
      walk_at "rd"
      refine ⟨w, rfl, by omega, fun H5 s5 => ?_⟩
      have hf5 := s5 _ _ (s4 _ _ hf3)
      refine ⟨tyL hf5, _, hf5, by decide, ?_⟩
      replace hD1 := s5 _ _ hD1
      replace s4 := s4.trans s5
      have ht : ∀ (j : Nat) (a : Addr) (w : Str), as[j]? = some a → D[j]? = some w → H5 a = some (.lst [.str w, .int (cst w : Nat), .int ((words zs).count w : Nat)]) := fun j a w e1 e2 => s5 _ _ (ht j a w e1 e2)
      intro q1 n1
      have t1 := same_new (o := .lst [.str w, .int (cst w : Nat), .int ((words zs).count w : Nat)]) n1
      have n1D : q1 ≠ D1 := fun e => by rw [e, hD1] at n1; cases n1
      have hgo : ∀ j a w', as[j]? = some a → D[j]? = some w' → a ≠ D1 := fun j a w' e1 e2 e => by
        have := s4 D1
        have h5 := ht j a w' e1 e2
        subst e
        rw [hD1] at h5
        have := Option.some.inj h5
        have hl := HO.lst.inj this
        cases as with
        | nil => cases e1
        | cons x xs => cases (List.cons.inj hl).1
      refine ⟨_, t1 _ _ hD1, ?_, ⟨as ++ [q1], ?_, ?_, ?_⟩, Same.put (s4.trans t1) nD1⟩
      · rw [List.length_map, la]
        exact Nat.lt_of_lt_of_le (by omega : _ < 70000) (by decide)
      · rw [List.length_append, la]
        rfl
      · rw [List.map_append]
        rfl
      · intro j a w' e1 e2
        rcases Nat.lt_or_ge j as.length with hj | hj
        · rw [List.getElem?_append_left hj] at e1
          rw [upd_ne (hgo j a w' e1 e2)]
          exact t1 _ _ (ht j a w' e1 e2)
        · rw [List.getElem?_append_right hj] at e1
          have hj0 : j - as.length = 0 := by
            have := (List.getElem?_eq_some_iff.mp e1).1
            simp at this
            omega
          rw [hj0] at e1
          have ea : q1 = a := by simpa using e1
          subst ea
          have ej : j = i := by omega
          subst ej
          rw [ei] at e2
          cases e2
          rw [upd_ne n1D, upd_same]
          rfl
    intro H4 h
    rw [hGB, List.length_map] at h
    obtain ⟨⟨as, la, hD1, ht⟩, s4⟩ := h
    exact q D1 D H4 (s2.trans (s3.trans s4)) ((s2.trans s3).free nD1) dD ⟨as, hD1, la, ht⟩
end
section
variable {P : Program} {w : World} {K : PySem.W.Frag} {mg : Str → Option Value} {base : Heap}
theorem ok__law_base (S : Src K mg "_law_base" s__law_base) (T : Tx P K mg) (C__law_pieces : Cal P w K mg base CX0 1 "_law_pieces" ["_law_text"] spPieces) (C__law_cost : Cal P w K mg base CX0 2 "_law_cost" ["_law_text"] spCost)  : Cal P w K mg base CX0 3 "_law_base" ["_law_rows_here", "_law_table"] spBaseT := by
  refine S.cal sc__law_base bn__law_base (fun vs H Q E h => ?_) (fun f cdv A outer s H vs Q E hr h => ?_)
  · first | (obtain ⟨rfl, _⟩ := h; rfl) | (obtain ⟨_, rfl, _⟩ := h; rfl) | (obtain ⟨_, _, rfl, _⟩ := h; rfl) | (obtain ⟨_, _, _, rfl, _⟩ := h; rfl) | (obtain ⟨_, _, _, _, rfl, _⟩ := h; rfl) | (obtain ⟨_, _, _, _, _, rfl, _⟩ := h; rfl) | (obtain ⟨_, _, _, _, _, _, rfl, _⟩ := h; rfl) | (obtain ⟨_, _, _, _, _, _, _, rfl, _⟩ := h; rfl) | (obtain ⟨_, _, _, _, _, _, _, _, rfl, _⟩ := h; rfl) | (obtain ⟨_, _, _, _, _, _, _, _, _, rfl, _⟩ := h; rfl)
  · skip
    refine ⟨_, (pss_cons (ps_set (i := 2) sc__law_base.nd rfl (Or.inr rfl) (pe_lc (own := [("_law_line", 5)]) rfl sc__law_base.nd (pi_list (pv 1)) (blkOk_by (N := N__law_base) (sc := defScope s__law_base) (by decide +kernel)) (fun _ _ _ _ _ => (pg_name (i := 5) sc__law_base.nd rfl (Or.inl rfl))) (fun _ _ _ _ _ => pts_nil) (fun _ _ _ _ _ => (pe_ix Fx.ix_L (pv 5) pe_int (fun _ _ => rfl)))))
        (pss_cons (ps_set (i := 3) sc__law_base.nd rfl (Or.inl rfl) (pe_op op_mul pe_int (Fx.pe_cB Fx.len_L T.b_len (by decide +kernel) (Fx.pa_c (pv 0) pa_nil))))
        (pss_cons (ps_for PassesOwn.never rfl (pi_list (pv 0)) (pg_name (i := 4) sc__law_base.nd rfl (Or.inl rfl)) (pss_one (ps_set (i := 3) sc__law_base.nd rfl (Or.inl rfl) (pe_op op_add (pv 3) (Fx.pe_cB (cr_sum rfl) T.b_sum (by decide +kernel) (Fx.pa_c (pe_lc (own := [("_law_piece", 6)]) rfl sc__law_base.nd (pi_list (Fx.pe_cal C__law_pieces (hr.mono (by decide)) pass0 (Fx.pa_c (pv 4) pa_nil))) (blkOk_by (N := N__law_base) (sc := defScope s__law_base) (by decide +kernel)) (fun _ _ _ _ _ => (pg_name (i := 6) sc__law_base.nd rfl (Or.inl rfl))) (fun _ _ _ _ _ => (pts_one (pt_cmpR Fx.notIn_S (pv 6) (pv 2) rfl))) (fun _ _ _ _ _ => (Fx.pe_cal C__law_cost (hr.mono (by decide)) pass0 (Fx.pa_c (pv 6) pa_nil)))) pa_nil))))))
        (pss_one (ps_ret (pv 3)))))), ?_⟩
    obtain ⟨p, q0, zs, D, rfl, hp, hg, hl, hT, hD, q⟩ := h
    have hT0 := hT
    obtain ⟨as, hq, la, ht⟩ := hT0
    refine seqI fun K1 k1 => ?_
    refine ⟨_, rfl, q0, rfl, ⟨_, .inl (.inl hq)⟩, fun D2 nD2 => ?_⟩
    have row : ∀ (i : Nat) (H' : Hp), i < D.length → Same H H' → ∃ a, as[i]? = some a ∧ H' a = some (.lst [.str (D.getD i ""), .int (cst (D.getD i "") : Nat), .int ((words zs).count (D.getD i "") : Nat)]) := fun i H' hi s' => by
      have h1 : i < as.length := by omega
      have eg : D.getD i "" = D[i] := by rw [List.getD_eq_getElem?_getD, List.getElem?_eq_getElem hi]; rfl
      rw [eg]
      exact ⟨as[i], List.getElem?_eq_getElem h1, s' _ _ (ht i _ _ (List.getElem?_eq_getElem h1) (List.getElem?_eq_getElem hi))⟩
    refine lcL (xs := as.map V.ref) (fun i => [V.str (D.getD i "")]) nD2 hq ?_ ?_
    · intro i y H3 hy h3
      have hi := (List.getElem?_eq_some_iff.mp hy).1
      rw [List.length_map, la] at hi
      obtain ⟨a, ea, hra⟩ := row i H3 hi h3.1
      rw [List.getElem?_map, ea] at hy
      cases hy
      refine ⟨rfl, ?_⟩
      walk_at "rd"
      refine ⟨_, hra, _, rfl, h3.put nD2 (fun _ => Nat.le_refl 1) (by omega) (Same.refl _) rfl⟩
    intro H3 s3 h3
    have eD : ((List.range as.length).map fun i => [V.str (D.getD i "")]).flatten = ms D := by
      rw [la]
      exact flat_map3 ("" : Str) V.str D
    rw [List.length_map, eD] at h3
    refine k1 _ _ ?_
    clear k1
    have hp3 := s3 _ _ hp
    refine seqI fun K1 k1 => ?_
    walk_at "rd"
    refine ⟨_, hp3, .inl ⟨by decide, by decide⟩, k1 _ _ ?_⟩
    clear k1
    rw [List.length_map]
    refine seqI fun K1 k1 => ?_
    refine ⟨_, rfl, p, rfl, ⟨_, .inl (.inl hp3)⟩, for_list (K := K) (a := p) (xs := ms zs) (fun i σ H' => ∃ v4, σ = [some (.ref p), some (.ref q0), some (.ref D2), some (.int (3 * (zs.length : Int) + (((zs.take i).map fun z => ((((pieces z).filter fun p => !decide (p ∈ D)).map fun p => (cst p : Int)).sum)).sum))), v4, none, none] ∧ Same H3 H') ⟨none, by simp, Same.refl _⟩ (fun i σ H' _ ⟨_, _, s⟩ => .inl (.inl (s _ _ hp3))) ?_ ?_⟩
    · rintro i y σ H4 hy ⟨v4, rfl, s4⟩
      clear k1
      obtain ⟨z, rfl, hz, eg, hi, ei⟩ := ms_get hy
      have jz := hg z hz
      have lz := judge_len jz
      have hD4 := s4 _ _ h3
      rw [List.take_add_one, ei, List.map_append, List.sum_append]
      walk_at "rd"
      refine ⟨_, rfl, z, rfl, by omega, fun pp H5 s5 np hpp => ⟨pp, rfl, ⟨_, .inl (.inl hpp)⟩, fun D5 nD5 => ?_⟩⟩
      have hD5 := s5 _ _ hD4
      have pm := pieces_many z
      refine lcL (xs := ms (pieces z)) (fun i => if (fun p => !decide (p ∈ D)) ((pieces z).getD i "") = true then [V.int (cst ((pieces z).getD i "") : Nat)] else []) nD5 hpp ?_ ?_
      · intro j y H6 hy h6
        obtain ⟨w, rfl, hw, eg2, hj, ej⟩ := ms_get hy
        obtain ⟨p1, p2⟩ := pieces_len hw
        refine ⟨rfl, ?_⟩
        walk_at "rd"
        refine ⟨_, .inl (h6.1 _ _ hD5), ite_i (fun g => ?_) (fun g => ?_)⟩
        · exact h6.skip (Same.refl _) (by rw [eg2]; exact if_neg (by simpa using g))
        · refine ⟨w, rfl, by omega, fun H7 s7 => ?_⟩
          exact h6.put nD5 (fun _ => by dsimp only; split <;> simp) (by omega) s7 (by rw [eg2]; exact if_pos (by simpa using g))
      intro H6 s6 h6
      rw [flat_fm (fun p => !decide (p ∈ D)) (fun p => V.int (cst p : Nat))] at h6
      refine ⟨D5, ((pieces z).filter fun p => !decide (p ∈ D)).map fun p => (cst p : Int), rfl, .inl (.inl (by rw [h6, List.map_map]; rfl)), _, rfl, ?_, s4.trans (s5.trans s6)⟩
      simp
      omega
    rintro σ H4 ⟨v4, rfl, s4⟩
    refine k1 _ _ ?_
    walk_at "rd"
    rw [List.length_map, List.take_of_length_le (Nat.le_refl _)]
    exact q H4 (s3.trans s4)
end
section
variable {P : Program} {w : World} {K : PySem.W.Frag} {mg : Str → Option Value} {base : Heap}
theorem ok__law_size (S : Src K mg "_law_size" s__law_size) (T : Tx P K mg) (C__law_cost : Cal P w K mg base CX0 2 "_law_cost" ["_law_text"] spCost)  : Cal P w K mg base CX0 3 "_law_size" ["_law_table", "_law_base_here", "_law_names"] spSizeT := by
  refine S.cal sc__law_size bn__law_size (fun vs H Q E h => ?_) (fun f cdv A outer s H vs Q E hr h => ?_)
  · first | (obtain ⟨rfl, _⟩ := h; rfl) | (obtain ⟨_, rfl, _⟩ := h; rfl) | (obtain ⟨_, _, rfl, _⟩ := h; rfl) | (obtain ⟨_, _, _, rfl, _⟩ := h; rfl) | (obtain ⟨_, _, _, _, rfl, _⟩ := h; rfl) | (obtain ⟨_, _, _, _, _, rfl, _⟩ := h; rfl) | (obtain ⟨_, _, _, _, _, _, rfl, _⟩ := h; rfl) | (obtain ⟨_, _, _, _, _, _, _, rfl, _⟩ := h; rfl) | (obtain ⟨_, _, _, _, _, _, _, _, rfl, _⟩ := h; rfl) | (obtain ⟨_, _, _, _, _, _, _, _, _, rfl, _⟩ := h; rfl)
  · skip
    refine ⟨_, (pss_cons (ps_set (i := 3) sc__law_size.nd rfl (Or.inl rfl) (pe_op op_add (pv 1) (Fx.pe_cB (cr_sum rfl) T.b_sum (by decide +kernel) (Fx.pa_c (pe_lc (own := [("_law_word_here", 5)]) rfl sc__law_size.nd (pi_list (pv 2)) (blkOk_by (N := N__law_size) (sc := defScope s__law_size) (by decide +kernel)) (fun _ _ _ _ _ => (pg_name (i := 5) sc__law_size.nd rfl (Or.inl rfl))) (fun _ _ _ _ _ => pts_nil) (fun _ _ _ _ _ => (pe_op op_add (Fx.pe_cal C__law_cost (hr.mono (by decide)) pass0 (Fx.pa_c (pv 5) pa_nil)) pe_int))) pa_nil))))
        (pss_cons (ps_for PassesOwn.never rfl (pi_list (pv 0)) (pg_name (i := 4) sc__law_size.nd rfl (Or.inl rfl)) (pss_one (ps_if (pt_cmpR Fx.in_S (pe_ix Fx.ix_L (pv 4) pe_int (fun _ _ => rfl)) (pv 2) rfl) (pss_one (ps_set (i := 3) sc__law_size.nd rfl (Or.inl rfl) (pe_op op_add (pv 3) (pe_op op_mul pe_int (pe_ix Fx.ix_L (pv 4) pe_int (fun _ _ => rfl)))))) (pss_one (ps_set (i := 3) sc__law_size.nd rfl (Or.inl rfl) (pe_op op_add (pv 3) (pe_op op_mul (pe_ix Fx.ix_L (pv 4) pe_int (fun _ _ => rfl)) (pe_ix Fx.ix_L (pv 4) pe_int (fun _ _ => rfl)))))))))
        (pss_one (ps_ret (pv 3))))), ?_⟩
    obtain ⟨q0, r, b, T, D, names, rfl, hT, hD, hTl, hDw, hr, hn, hnw, q⟩ := h
    have hT0 := hT
    obtain ⟨as, hq, la, ht⟩ := hT0
    refine seqI fun K1 k1 => ?_
    walk_at "rd"
    refine ⟨_, rfl, r, rfl, ⟨_, .inl (.inl hr)⟩, fun D2 nD2 => ?_⟩
    refine lcL (xs := ms names) (fun i => [V.int ((cst (names.getD i "") : Int) + 3)]) nD2 hr ?_ ?_
    · intro j y H6 hy h6
      obtain ⟨w, rfl, hw, eg2, hj, ej⟩ := ms_get hy
      refine ⟨rfl, ?_⟩
      walk_at "rd"
      refine ⟨w, rfl, hnw w hw, fun H7 s7 => ⟨_, rfl, h6.put nD2 (fun _ => Nat.le_refl 1) (by omega) s7 (by rw [eg2]; rfl)⟩⟩
    intro H3 s3 h3
    rw [flat_map1 (fun w => (cst w : Int) + 3)] at h3
    refine ⟨D2, _, rfl, .inl (.inl h3), _, rfl, k1 _ _ ?_⟩
    clear k1
    refine seqI fun K1 k1 => ?_
    have hq3 := s3 _ _ hq
    refine ⟨_, rfl, q0, rfl, ⟨_, .inl (.inl hq3)⟩, ?_⟩
    refine for_list (K := K) (a := q0) (xs := as.map V.ref) (fun i σ H' => ∃ v4, σ = [some (.ref q0), some (.int b), some (.ref r), some (.int (b + ((names.map fun w => (cst w : Int) + 3).sum) + (((D.take i).map fun w => if w ∈ names then 2 * (T.count w : Int) else (cst w : Int) * (T.count w : Int)).sum))), v4, none] ∧ Same H3 H') ⟨none, by simp, Same.refl _⟩ (fun i σ H' _ ⟨_, _, s⟩ => .inl (.inl (s _ _ hq3))) ?_ ?_
    · rintro i y σ H4 hy ⟨v4, rfl, s4⟩
      clear k1
      obtain ⟨a, w, rfl, ei, hw, hi, _, hrow⟩ := tab_at la ht (s3.trans s4) hy
      have hr4 := s4 _ _ (s3 _ _ hr)
      have lw := hDw w hw
      have cl : cst w ≤ 3 * w.length := clist_len w
      have ct : T.count w ≤ 60000 := Nat.le_trans List.count_le_length hTl
      rw [List.take_add_one, ei, List.map_append, List.sum_append]
      refine ifI fun A B ka kb => ?_
      walk_at "rd"
      refine ⟨_, hrow, _, rfl, w, rfl, names, .inl hr4, ite_i (fun g => ka _ ?_) (fun g => kb _ ?_)⟩
      · walk_at "rd"
        refine ⟨_, hrow, _, rfl, _, rfl, .inl ⟨by decide, by decide⟩, ?_, s4⟩
        simp [g]
        omega
      · walk_at "rd"
        refine ⟨_, hrow, _, rfl, _, hrow, _, rfl, _, rfl, _, rfl, .inl ⟨by omega, by omega⟩, ?_, s4⟩
        simp [g]
        omega
    rintro σ H4 ⟨v4, rfl, s4⟩
    refine k1 _ _ ?_
    walk_at "rd"
    rw [List.length_map, la, List.take_of_length_le (Nat.le_refl _)]
    exact q H4 (s3.trans s4)
end
section
variable {P : Program} {w : World} {K : PySem.W.Frag} {mg : Str → Option Value} {base : Heap}
theorem ok__law_greatest (S : Src K mg "_law_greatest" s__law_greatest) (T : Tx P K mg)   : Cal P w K mg base CX0 1 "_law_greatest" ["_law_table", "_law_limit"] spGreat := by
  refine S.cal sc__law_greatest bn__law_greatest (fun vs H Q E h => ?_) (fun f cdv A outer s H vs Q E hr h => ?_)
  · first | (obtain ⟨rfl, _⟩ := h; rfl) | (obtain ⟨_, rfl, _⟩ := h; rfl) | (obtain ⟨_, _, rfl, _⟩ := h; rfl) | (obtain ⟨_, _, _, rfl, _⟩ := h; rfl) | (obtain ⟨_, _, _, _, rfl, _⟩ := h; rfl) | (obtain ⟨_, _, _, _, _, rfl, _⟩ := h; rfl) | (obtain ⟨_, _, _, _, _, _, rfl, _⟩ := h; rfl) | (obtain ⟨_, _, _, _, _, _, _, rfl, _⟩ := h; rfl) | (obtain ⟨_, _, _, _, _, _, _, _, rfl, _⟩ := h; rfl) | (obtain ⟨_, _, _, _, _, _, _, _, _, rfl, _⟩ := h; rfl)
  · skip
    refine ⟨_, (pss_cons (ps_set (i := 2) sc__law_greatest.nd rfl (Or.inl rfl) (pe_lst pa_nil))
        (pss_cons (ps_for PassesOwn.never rfl (pi_list (pv 0)) (pg_name (i := 3) sc__law_greatest.nd rfl (Or.inl rfl)) (pss_cons (ps_set (i := 4) sc__law_greatest.nd rfl (Or.inl rfl) (pe_op op_sub (pe_op op_sub (pe_op op_mul (pe_ix Fx.ix_L (pv 3) pe_int (fun _ _ => rfl)) (pe_op op_sub (pe_ix Fx.ix_L (pv 3) pe_int (fun _ _ => rfl)) pe_int)) (pe_ix Fx.ix_L (pv 3) pe_int (fun _ _ => rfl))) pe_int))
        (pss_one (ps_if (pt_cmpR op_gt (pv 4) pe_int (nomark _)) (pss_one (ps_expr (pe_bm PySem.F.plainAttrs_list PySem.F.slot_list_append PySem.F.type_list_append mt_append (pv 2) (Fx.pa_c (pe_tup (Fx.pa_c (pe_op op_sub pe_int (pv 4)) (Fx.pa_c (pe_ix Fx.ix_L (pv 3) pe_int (fun _ _ => rfl)) pa_nil))) pa_nil)))) pss_nil))))
        (pss_one (ps_ret (Fx.pe_cB Fx.sort_S T.b_sorted (by decide +kernel) (Fx.pa_c (pe_lc (own := [("_law_pair", 5)]) rfl sc__law_greatest.nd (pi_list (pe_slice Fx.sl_L (Fx.pe_cB (Fx.sort_D hr.units) T.b_sorted (by decide +kernel) (Fx.pa_c (pv 2) pa_nil)) po_none (po_some (pv 1)))) (blkOk_by (N := N__law_greatest) (sc := defScope s__law_greatest) (by decide +kernel)) (fun _ _ _ _ _ => (pg_name (i := 5) sc__law_greatest.nd rfl (Or.inl rfl))) (fun _ _ _ _ _ => pts_nil) (fun _ _ _ _ _ => (pe_ix Fx.ix_T (pv 5) pe_int (fun _ _ => rfl)))) pa_nil)))))), ?_⟩
    obtain ⟨q0, m, T, D, rfl, hT, hD, hTl, hDw, hm, q⟩ := h
    have hT0 := hT
    obtain ⟨as, hq, la, ht⟩ := hT0
    have hq000 := hq
    refine seqI fun K1 k1 => ?_
    walk_at "rd"
    refine ⟨by decide, ?_⟩
    intro pg ng
    generalize e_pg : upd H pg _ = H1
    have s1 := new_s ng e_pg
    have hg := new_h e_pg
    clear e_pg
    try (first | replace hq := s1 _ _ hq | replace hq := hq.same s1 | replace hq := hq.then s1 | replace hq := hq.trans s1)
    refine k1 _ _ ?_
    clear k1
    refine seqI fun K1 k1 => ?_
    refine ⟨_, rfl, q0, rfl, ⟨_, .inl (.inl hq)⟩, ?_⟩
    have hq00 := hq
    refine for_list (K := K) (a := q0) (xs := as.map V.ref) (fun i σ H' => ∃ (v3 v4 : Option V) (bs : List Addr), σ = [some (.ref q0), some (.int m), some (.ref pg), v3, v4, none] ∧ H' pg = some (.lst (bs.map V.ref)) ∧ bs.length = ((D.take i).filter fun w => decide (costV T w < 0)).length ∧ (∀ (j : Nat) (a : Addr) (w : Str), bs[j]? = some a → ((D.take i).filter fun w => decide (costV T w < 0))[j]? = some w → H' a = some (.tup [.int (costV T w), .str w])) ∧ Same H H') ⟨none, none, [], rfl, hg, rfl, fun j a w e _ => (by cases e), s1⟩ (fun i σ H' _ ⟨_, _, _, _, _, _, _, s⟩ => .inl (.inl (s _ _ hq000))) ?_ ?_
    · rintro i y σ H4 hy ⟨v3, v4, bs, rfl, h4, lb, hb, s4⟩
      clear k1
      obtain ⟨a, w, rfl, ei, hw, hi, _, hrow⟩ := tab_at la ht s4 hy
      have lw := hDw w hw
      have cl : cst w ≤ 3 * w.length := clist_len w
      have ct : T.count w ≤ 60000 := Nat.le_trans List.count_le_length hTl
      have tk : (D.take (i + 1)).filter (fun w => decide (costV T w < 0)) = (D.take i).filter (fun w => decide (costV T w < 0)) ++ (if costV T w < 0 then [w] else []) := by
        rw [List.take_add_one, ei, List.filter_append]
        by_cases h : costV T w < 0
        · rw [if_pos h]
          show _ ++ List.filter _ [w] = _
          rw [List.filter_cons_of_pos (by simpa using h)]
          rfl
        · rw [if_neg h]
          show _ ++ List.filter _ [w] = _
          rw [List.filter_cons_of_neg (by simpa using h)]
          rfl
      rw [tk]
      refine seqI fun K1 k1 => ?_
      walk_at "rd"
      refine ⟨_, hrow, _, rfl, _, hrow, _, rfl, _, rfl, _, rfl, .inl ⟨by omega, by omega⟩, _, hrow, _, rfl, _, rfl, k1 _ _ ?_⟩
      clear k1
      have eg : -((T.count w : Int) * ((cst w : Int) - 2) - (cst w : Int) - 3) = costV T w := by
        unfold costV
        omega
      generalize hG : (T.count w : Int) * ((cst w : Int) - 2) - (cst w : Int) - 3 = G at eg
      refine ifI fun A B ka kb => ?_
      walk_at "rd"
      refine ite_i (fun g => ka _ ?_) (fun g => kb _ ?_)
      · rw [if_pos (by omega : costV T w < 0)]
        walk_at "rd"
        refine ⟨tyL h4, _, hrow, _, rfl, by decide, fun q1 n1 => ?_⟩
        rw [show (0 - G) = costV T w by omega]
        have t1 := same_new (o := .tup [.int (costV T w), .str w]) n1
        have nqp : q1 ≠ pg := fun e => by rw [e, h4] at n1; cases n1
        refine ⟨_, t1 _ _ h4, ?_, bs ++ [q1], by rw [List.map_append]; rfl, ?_, ?_, Same.put (s4.trans t1) ng⟩
        · rw [List.length_map, lb]
          have := List.length_filter_le (fun w => decide (costV T w < 0)) (D.take i)
          rw [List.length_take] at this
          exact Nat.lt_of_lt_of_le (by omega : _ < 70000) (by decide)
        · rw [List.length_append, List.length_append, lb]
          rfl
        · intro j a' w' e1 e2
          rcases Nat.lt_or_ge j bs.length with hj | hj
          · rw [List.getElem?_append_left hj] at e1
            rw [List.getElem?_append_left (by omega)] at e2
            have h5 := hb j a' w' e1 e2
            rw [upd_ne (fun e => by rw [e, h4] at h5; cases h5)]
            exact t1 _ _ h5
          · rw [List.getElem?_append_right hj] at e1
            rw [List.getElem?_append_right (by omega)] at e2
            have hj0 : j - bs.length = 0 := by
              have := (List.getElem?_eq_some_iff.mp e1).1
              simp at this
              omega
            rw [hj0] at e1
            rw [show j - ((D.take i).filter fun w => decide (costV T w < 0)).length = 0 by omega] at e2
            cases e1
            cases e2
            rw [upd_ne nqp, upd_same]
      · rw [if_neg (by omega : ¬ costV T w < 0), List.append_nil]
        walk_at "rd"
        exact ⟨bs, h4, lb, hb, s4⟩
    rintro σ H4 ⟨v3, v4, bs, rfl, h4, lb, hb, s4⟩
    refine k1 _ _ ?_
    clear k1
    rw [List.length_map, la, List.take_of_length_le (Nat.le_refl _)] at lb hb
    generalize hF : (D.filter fun w => decide (costV T w < 0)) = F at lb hb q
    have lF : F.length ≤ D.length := by
      rw [← hF]
      exact List.length_filter_le _ _
    have ht : ∀ p ∈ bs.zip F, H4 p.1 = some (.tup [.int (costV T p.2), .str p.2]) := fun p hp => by
      obtain ⟨j, hj⟩ := List.mem_iff_getElem?.mp hp
      have := List.getElem?_zip_eq_some.mp hj
      exact hb j p.1 p.2 this.1 this.2
    have lFm : F.length ≤ 60000 := by omega
    walk_at "rd"
    refine ⟨_, rfl, pg, (bs.zip F).map (encP (costV T)), rfl, ?_, ?_, ?_, ?_, ?_, fun q1 n1 => ?_⟩
    · rw [List.map_map]
      refine .inl (.inl ?_)
      rw [h4]
      have e1 : (bs.zip F).map ((fun x : V × PyData => x.1) ∘ encP (costV T)) = ((bs.zip F).map (·.1)).map V.ref := by rw [List.map_map]; rfl
      rw [e1, List.map_fst_zip (by omega)]
    · intro x hx
      obtain ⟨⟨a, w⟩, hp, rfl⟩ := List.mem_map.mp hx
      exact .tup (.inl (.inl (ht _ hp))) (.cons (.int _) (.cons (.str _) .nil))
    · intro x hx y hy
      obtain ⟨⟨a, w⟩, _, rfl⟩ := List.mem_map.mp hx
      obtain ⟨⟨a2, w2⟩, _, rfl⟩ := List.mem_map.mp hy
      simp [PySem.W.alike, PySem.W.alikeAll]
    · intro x hx
      obtain ⟨⟨a, w⟩, _, rfl⟩ := List.mem_map.mp hx
      exact ⟨_, _, rfl⟩
    · intro x hx
      obtain ⟨⟨a, w⟩, _, rfl⟩ := List.mem_map.mp hx
      simp [PyData.depth, PyData.depthAll]
    obtain ⟨ps, eps, pp, ord⟩ := sort_is (costV T) (bs.zip F)
    rw [eps, List.map_map]
    have t1 := same_new (o := .lst (ps.map ((fun x : V × PyData => x.1) ∘ encP (costV T)))) n1
    have hg2 : (upd H4 q1 (.lst (ps.map ((fun x : V × PyData => x.1) ∘ encP (costV T))))) q1 = some (.lst (ps.map fun p => V.ref p.1)) := by
      rw [upd_same]
      rfl
    have ht2 : ∀ p ∈ ps, (upd H4 q1 (.lst (ps.map ((fun x : V × PyData => x.1) ∘ encP (costV T))))) p.1 = some (.tup [.int (costV T p.2), .str p.2]) := fun p hp => t1 _ _ (ht p (pp.mem_iff.mp hp))
    have sF := s4.trans t1
    generalize (upd H4 q1 (.lst (ps.map ((fun x : V × PyData => x.1) ∘ encP (costV T))))) = H5 at hg2 ht2 sF
    clear t1 n1 eps hb ht
    refine ⟨_, rfl, _, rfl, q1, _, rfl, hg2, fun pc nc => ⟨pc, rfl, ⟨_, .inl (.inl upd_same)⟩, fun D2 nD2 => ?_⟩⟩
    rw [cutV_hi, ← List.map_take] at nD2 ⊢
    have sc := same_new (o := .lst ((ps.take m).map fun p => V.ref p.1)) nc
    have hc : (upd H5 pc (.lst ((ps.take m).map fun p => V.ref p.1))) pc = some (.lst ((ps.take m).map fun p => V.ref p.1)) := upd_same
    have ht3 : ∀ p ∈ ps, (upd H5 pc (.lst ((ps.take m).map fun p => V.ref p.1))) p.1 = some (.tup [.int (costV T p.2), .str p.2]) := fun p hp => sc _ _ (ht2 p hp)
    replace sF := sF.trans sc
    generalize (upd H5 pc (.lst ((ps.take m).map fun p => V.ref p.1))) = H6 at nD2 sF hc ht3
    clear sc nc hg2 ht2
    have pD : (ps.map (·.2)).Perm F := by
      have := pp.map (·.2)
      rwa [List.map_snd_zip (by omega)] at this
    have eW : (ps.take m).map (·.2) = (ps.map (·.2)).take m := List.map_take
    refine lcL (xs := (ps.take m).map fun p => V.ref p.1) (fun i => [V.str (((ps.take m).map (·.2)).getD i ("" : Str))]) nD2 hc ?_ ?_
    · intro i y H7 hy h7
      have hi := (List.getElem?_eq_some_iff.mp hy).1
      rw [List.length_map] at hi
      rw [List.getElem?_map, List.getElem?_eq_getElem hi] at hy
      cases hy
      have hm2 : (ps.take m)[i] ∈ ps := List.mem_of_mem_take (List.getElem_mem hi)
      have e7 := h7.1 _ _ (ht3 _ hm2)
      have eg : ((ps.take m).map (·.2)).getD i ("" : Str) = (ps.take m)[i].2 := by rw [List.getD_eq_getElem?_getD, List.getElem?_map, List.getElem?_eq_getElem hi]; rfl
      rw [List.length_take] at hi
      refine ⟨rfl, ?_⟩
      walk_at "rd"
      exact ⟨_, e7, _, rfl, h7.put nD2 (fun _ => Nat.le_refl 1) (by omega) (Same.refl _) (by rw [eg])⟩
    intro H7 s7 h7
    rw [List.length_map, show (ps.take m).length = ((ps.take m).map (·.2)).length by rw [List.length_map], flat_map3 ("" : Str) V.str, eW] at h7
    refine ⟨D2, rfl, (ps.map (·.2)).take m, h7, fun ys q2 perm so n2 => q q2 (ps.map (·.2)) ys _ ((sF.trans s7).trans (same_new n2)) ((sF.trans s7).free n2) pD ord perm so upd_same⟩
end
section
variable {P : Program} {w : World} {K : PySem.W.Frag} {mg : Str → Option Value} {base : Heap}
theorem ok__law_rivals (S : Src K mg "_law_rivals" s__law_rivals) (T : Tx P K mg)   : Cal P w K mg base CX0 1 "_law_rivals" ["_law_table", "_law_limit"] spRivals := by
  refine S.cal sc__law_rivals bn__law_rivals (fun vs H Q E h => ?_) (fun f cdv A outer s H vs Q E hr h => ?_)
  · first | (obtain ⟨rfl, _⟩ := h; rfl) | (obtain ⟨_, rfl, _⟩ := h; rfl) | (obtain ⟨_, _, rfl, _⟩ := h; rfl) | (obtain ⟨_, _, _, rfl, _⟩ := h; rfl) | (obtain ⟨_, _, _, _, rfl, _⟩ := h; rfl) | (obtain ⟨_, _, _, _, _, rfl, _⟩ := h; rfl) | (obtain ⟨_, _, _, _, _, _, rfl, _⟩ := h; rfl) | (obtain ⟨_, _, _, _, _, _, _, rfl, _⟩ := h; rfl) | (obtain ⟨_, _, _, _, _, _, _, _, rfl, _⟩ := h; rfl) | (obtain ⟨_, _, _, _, _, _, _, _, _, rfl, _⟩ := h; rfl)
  · skip
    refine ⟨_, (pss_cons (ps_set (i := 2) sc__law_rivals.nd rfl (Or.inl rfl) (pe_lst (Fx.pa_c (pe_lst pa_nil) pa_nil)))
        (pss_cons (ps_for PassesOwn.never rfl (pi_list (pv 0)) (pg_name (i := 3) sc__law_rivals.nd rfl (Or.inr rfl)) (pss_one (ps_set (i := 2) sc__law_rivals.nd rfl (Or.inl rfl) (pe_op op_cat (pv 2) (pe_lc (own := [("_law_names", 4)]) rfl sc__law_rivals.nd (pi_list (pv 2)) (blkOk_by (N := N__law_rivals) (sc := defScope s__law_rivals) (by decide +kernel)) (fun _ _ _ _ _ => (pg_name (i := 4) sc__law_rivals.nd rfl (Or.inl rfl))) (fun _ _ _ _ _ => pts_nil) (fun _ _ _ _ _ => (pe_op op_cat (pv 4) (pe_lst (Fx.pa_c (pe_ix Fx.ix_L (pv 3) pe_int (fun _ _ => rfl)) pa_nil)))))))))
        (pss_one (ps_ret (pe_lc (own := [("_law_names", 4)]) rfl sc__law_rivals.nd (pi_list (pv 2)) (blkOk_by (N := N__law_rivals) (sc := defScope s__law_rivals) (by decide +kernel)) (fun _ _ _ _ _ => (pg_name (i := 4) sc__law_rivals.nd rfl (Or.inl rfl))) (fun _ _ _ _ _ => (pts_one (pt_cmpR op_le (Fx.pe_cB Fx.len_L T.b_len (by decide +kernel) (Fx.pa_c (pv 4) pa_nil)) (pv 1) (nomark _)))) (fun _ _ _ _ _ => (pv 4))))))), ?_⟩
    obtain ⟨q0, m, T, D, rfl, hT, hD, q⟩ := h
    have hT0 := hT
    obtain ⟨as, hq, la, ht⟩ := hT0
    have hq0 := hq
    refine seqI fun K1 k1 => ?_
    walk_at "rd"
    refine ⟨by decide, ?_⟩
    intro p1 n1
    generalize e_p1 : upd H p1 _ = H1
    have s1 := new_s n1 e_p1
    have h1 := new_h e_p1
    clear e_p1
    try (first | replace hq := s1 _ _ hq | replace hq := hq.same s1 | replace hq := hq.then s1 | replace hq := hq.trans s1)
    refine ⟨by decide, ?_⟩
    have f1 : ∀ p, H1 p = none → H p = none := fun p n => s1.free n
    intro p2 n2
    generalize e_p2 : upd H1 p2 _ = H2
    have s2 := new_s n2 e_p2
    have h2 := new_h e_p2
    clear e_p2
    try (first | replace hq := s2 _ _ hq | replace hq := hq.same s2 | replace hq := hq.then s2 | replace hq := hq.trans s2)
    try (first | replace h1 := s2 _ _ h1 | replace h1 := h1.same s2 | replace h1 := h1.then s2 | replace h1 := h1.trans s2)
    try (first | replace s1 := s2 _ _ s1 | replace s1 := s1.same s2 | replace s1 := s1.then s2 | replace s1 := s1.trans s2)
    refine k1 _ _ ?_
    clear k1
    refine seqI fun K1 k1 => ?_
    refine ⟨_, rfl, q0, rfl, ⟨_, .inl (.inl hq)⟩, ?_⟩
    refine for_list (K := K) (a := q0) (xs := as.map V.ref) (fun i σ H' => ∃ (pr : Addr) (v3 : Option V) (bs : List Addr), σ = [some (.ref q0), some (.int m), some (.ref pr), v3, none] ∧ H' pr = some (.lst (bs.map V.ref)) ∧ bs.length = 2 ^ i ∧ (∀ a ∈ bs, ∃ l, H' a = some (.lst (ms l)) ∧ l.Sublist (D.take i)) ∧ Same H H' ∧ H pr = none) ⟨p2, none, [p1], rfl, h2, rfl, fun a ha => by rw [List.mem_singleton.mp ha]; exact ⟨[], h1, List.Sublist.refl _⟩, s1, f1 _ n2⟩ (fun i σ H' _ ⟨_, _, _, _, _, _, _, s, _⟩ => .inl (.inl (s _ _ hq0))) ?_ ?_
    · rintro i y σ H4 hy ⟨pr, v3, bs, rfl, h4, lb, hb, s4, nr⟩
      clear k1
      obtain ⟨a, w, rfl, ei, hw, hi, _, hrow⟩ := tab_at la ht s4 hy
      have li : 2 ^ i ≤ 64 := by
        have : i ≤ 5 := by omega
        exact Nat.le_trans (Nat.pow_le_pow_right (by decide) this) (by decide)
      have tk : D.take (i + 1) = D.take i ++ [w] := by
        rw [List.take_add_one, ei]
        rfl
      walk_at "rd"
      refine ⟨_, rfl, _, rfl, ⟨_, .inl (.inl h4)⟩, fun D1 nD1 => ?_⟩
      refine lc_list (K := K) (a := pr) (xs := bs.map V.ref) (fun j H' => ∃ cs : List Addr, cs.length = j ∧ H' D1 = some (.lst (cs.map V.ref)) ∧ (∀ a ∈ cs, a ≠ D1 ∧ ∃ l, H' a = some (.lst (ms l)) ∧ l.Sublist (D.take (i + 1))) ∧ Same H4 H') ⟨[], rfl, upd_same, fun a ha => (by cases ha), same_new nD1⟩ (fun j H' _ ⟨_, _, _, _, s⟩ => .inl (.inl (s _ _ h4))) ?_ ?_
      · rintro j y H5 hy ⟨cs, lc, hD1, hcs, s5⟩
        obtain ⟨x, hx, rfl⟩ := List.mem_map.mp (List.mem_of_getElem? hy)
        have hj := (List.getElem?_eq_some_iff.mp hy).1
        rw [List.length_map] at hj
        obtain ⟨l, hl, sl⟩ := hb x hx
        have ll : l.length ≤ 6 := by
          have := sl.length_le
          rw [List.length_take] at this
          omega
        refine ⟨rfl, ?_⟩
        walk_at "rd"
        have hl5 := s5 _ _ hl
        have hrow5 := s5 _ _ hrow
        refine ⟨_, hrow5, _, rfl, by decide, ?_⟩
        have ss := s5
        have hcs0 := hcs
        intro q1 n1
        generalize e_q1 : upd H5 q1 _ = H6
        have t1 := new_s n1 e_q1
        have g1 := new_h e_q1
        clear e_q1
        try (first | replace hl5 := t1 _ _ hl5 | replace hl5 := hl5.same t1 | replace hl5 := hl5.then t1 | replace hl5 := hl5.trans t1)
        try (first | replace hD1 := t1 _ _ hD1 | replace hD1 := hD1.same t1 | replace hD1 := hD1.then t1 | replace hD1 := hD1.trans t1)
        try (first | replace ss := t1 _ _ ss | replace ss := ss.same t1 | replace ss := ss.then t1 | replace ss := ss.trans t1)
        refine ⟨_, hl5, ?_, ?_⟩
        · rw [List.length_map]
          exact sz (by omega)
        have eapp : ms l ++ [V.str w] = ms (l ++ [w]) := by rw [ms, ms, List.map_append]; rfl
        rw [eapp]
        have hD6 := hD1
        intro q2 n2'
        generalize e_q2 : upd H6 q2 _ = H7
        have t2 := new_s n2' e_q2
        have g2 := new_h e_q2
        clear e_q2
        try (first | replace hl5 := t2 _ _ hl5 | replace hl5 := hl5.same t2 | replace hl5 := hl5.then t2 | replace hl5 := hl5.trans t2)
        try (first | replace hD1 := t2 _ _ hD1 | replace hD1 := hD1.same t2 | replace hD1 := hD1.then t2 | replace hD1 := hD1.trans t2)
        try (first | replace ss := t2 _ _ ss | replace ss := ss.same t2 | replace ss := ss.then t2 | replace ss := ss.trans t2)
        try (first | replace g1 := t2 _ _ g1 | replace g1 := g1.same t2 | replace g1 := g1.then t2 | replace g1 := g1.trans t2)
        have nqD : q2 ≠ D1 := fun e => by rw [e, hD6] at n2'; cases n2'
        refine ⟨_, hD1, ?_, cs ++ [q2], ?_, ?_, fun a ha => ?_, Same.put ss nD1⟩
        · rw [List.length_map, lc]
          exact Nat.lt_of_lt_of_le (by omega : _ < 100) (by decide)
        · rw [List.length_append, lc]
          rfl
        · rw [List.map_append]
          rfl
        · rcases List.mem_append.mp ha with ha | ha
          · obtain ⟨na, l', h', s'⟩ := hcs a ha
            exact ⟨na, l', by rw [upd_ne na]; exact t2 _ _ (t1 _ _ h'), s'⟩
          · rw [List.mem_singleton.mp ha]
            refine ⟨nqD, l ++ [w], by rw [upd_ne nqD]; exact g2, ?_⟩
            rw [tk]
            exact sl.append (List.Sublist.refl _)
      rintro H5 ⟨cs, lc, hD1, hcs, s5⟩
      rw [List.length_map] at lc
      refine ⟨_, rfl, _, s5 _ _ h4, _, hD1, ?_, fun q3 n3 => ⟨bs ++ cs, ?_, ?_, fun a ha => ?_, (s4.trans s5).trans (same_new n3), (s4.trans s5).free n3⟩⟩
      · rw [List.length_map, List.length_map]
        exact sz (by omega)
      · rw [List.map_append]
      · rw [List.length_append, lc, lb, Nat.pow_succ]
        omega
      · have t3 := same_new (o := .lst (bs.map V.ref ++ cs.map V.ref)) n3
        rcases List.mem_append.mp ha with ha | ha
        · obtain ⟨l, hl, sl⟩ := hb a ha
          refine ⟨l, t3 _ _ (s5 _ _ hl), sl.trans ?_⟩
          rw [tk]
          exact List.sublist_append_left _ _
        · obtain ⟨_, l, hl, sl⟩ := hcs a ha
          exact ⟨l, t3 _ _ hl, sl⟩
    rintro σ H4 ⟨pr, v3, bs, rfl, h4, lb, hb, s4, nr⟩
    refine k1 _ _ ?_
    clear k1
    rw [List.length_map, la, List.take_of_length_le (Nat.le_refl _)] at hb
    have l64 : bs.length ≤ 64 := by
      rw [lb, List.length_map, la]
      exact Nat.le_trans (Nat.pow_le_pow_right (by decide) hD) (by decide)
    walk_at "rd"
    refine ⟨_, rfl, pr, rfl, ⟨_, .inl (.inl h4)⟩, fun D1 nD1 => ?_⟩
    refine lc_list (K := K) (a := pr) (xs := bs.map V.ref) (fun j H' => ∃ cs : List Addr, cs.length ≤ j ∧ H' D1 = some (.lst (cs.map V.ref)) ∧ (∀ a ∈ cs, ∃ l, H4 a = some (.lst (ms l)) ∧ l.Sublist D ∧ l.length ≤ m) ∧ Same H4 H') ⟨[], Nat.le_refl _, upd_same, fun a ha => (by cases ha), same_new nD1⟩ (fun j H' _ ⟨_, _, _, _, s⟩ => .inl (.inl (s _ _ h4))) ?_ ?_
    · rintro j y H5 hy ⟨cs, lc, hD1, hcs, s5⟩
      obtain ⟨x, hx, rfl⟩ := List.mem_map.mp (List.mem_of_getElem? hy)
      have hj := (List.getElem?_eq_some_iff.mp hy).1
      rw [List.length_map] at hj
      obtain ⟨l, hl, sl⟩ := hb x hx
      refine ⟨rfl, ?_⟩
      walk_at "rd"
      refine ⟨_, s5 _ _ hl, ite_i (fun g => ?_) (fun g => ?_)⟩
      · rw [List.length_map] at g
        refine ⟨_, hD1, ?_, cs ++ [x], ?_, ?_, fun a ha => ?_, Same.put s5 nD1⟩
        · rw [List.length_map]
          exact Nat.lt_of_lt_of_le (by omega : _ < 100) (by decide)
        · rw [List.length_append]
          show _ + 1 ≤ _
          omega
        · rw [List.map_append]
          rfl
        · rcases List.mem_append.mp ha with ha | ha
          · exact hcs a ha
          · rw [List.mem_singleton.mp ha]
            exact ⟨l, hl, sl, by omega⟩
      · exact ⟨cs, by omega, hD1, hcs, s5⟩
    rintro H5 ⟨cs, lc, hD1, hcs, s5⟩
    rw [List.length_map] at lc
    refine q D1 cs H5 (s4.trans s5) (s4.free nD1) hD1 (by omega) fun a ha => ?_
    obtain ⟨l, hl, x⟩ := hcs a ha
    exact ⟨l, s5 _ _ hl, x⟩
end
section
variable {P : Program} {w : World} {K : PySem.W.Frag} {mg : Str → Option Value} {base : Heap}
theorem ok__law_told (S : Src K mg "_law_told" s__law_told) (T : Tx P K mg) (C_best_lot : CalDK P w K mg base (L2.CX P w) 6 "best_lot" ["texts", "most"] (.int 16) "most" (spBestL K))  : Cal P w K mg base (L2.CX P w) 7 "_law_told" ["_law_rows_here", "_law_limit", "_law_way"] (spToldB K) := by
  refine S.calX sc__law_told bn__law_told (fun vs H Q E h => ?_) (fun f cdv A outer s H vs Q E hr h => ?_)
  · first | (obtain ⟨rfl, _⟩ := h; rfl) | (obtain ⟨_, rfl, _⟩ := h; rfl) | (obtain ⟨_, _, rfl, _⟩ := h; rfl) | (obtain ⟨_, _, _, rfl, _⟩ := h; rfl) | (obtain ⟨_, _, _, _, rfl, _⟩ := h; rfl) | (obtain ⟨_, _, _, _, _, rfl, _⟩ := h; rfl) | (obtain ⟨_, _, _, _, _, _, rfl, _⟩ := h; rfl) | (obtain ⟨_, _, _, _, _, _, _, rfl, _⟩ := h; rfl) | (obtain ⟨_, _, _, _, _, _, _, _, rfl, _⟩ := h; rfl) | (obtain ⟨_, _, _, _, _, _, _, _, _, rfl, _⟩ := h; rfl)
  · skip
    refine ⟨_, (pss_cons (ps_if (pt_cmpR op_eq (pv 2) pe_int (nomark _)) (pss_one (ps_ret (Fx.pe_cal C_best_lot.full (hr.mono (by decide)) (passes_call (takes_of rfl rfl rfl rfl) (fun _ _ _ _ z => z)) (Fx.pa_c (pv 0) (Fx.pa_c (pv 1) pa_nil))))) pss_nil)
        (pss_cons (ps_if (pt_cmpR op_eq (pv 2) pe_int (nomark _)) (pss_one (ps_ret (Fx.pe_calDK C_best_lot (hr.mono (by decide)) (passes_call (takes_of rfl rfl rfl rfl) (fun _ _ _ _ z => z)) (Fx.pa_c (Fx.pe_cTy Fx.tup_L T.b_tuple (by decide +kernel) (Fx.pa_c (pv 0) pa_nil)) pa_nil) (pk_cons (pv 1) pk_nil)))) pss_nil)
        (pss_one (ps_ret (Fx.pe_calD C_best_lot.d (hr.mono (by decide)) (passes_call (takes_of rfl rfl rfl rfl) (fun _ _ _ _ z => z)) (Fx.pa_c (pv 0) pa_nil)))))), ?_⟩
    obtain ⟨p, m, w, zs, rfl, hp, hg, hl, hm, hw, q⟩ := h
    refine seqI fun K1 k1 => ?_
    walk_at "rd"
    have sp : ∀ (p : Addr) (m' : Nat) (H1 : Hp), m' = m → Same H H1 → Sq H1 p (ms zs) → spBestL K [.ref p, .int (m' : Nat)] H1 Q E := fun p m' H1 e s1 h => ⟨p, m', zs, rfl, h, hg, hl, by omega, fun x D P ws H2 s2 a1 a2 a3 a4 => by subst e; exact q x D P ws H2 (s1.trans s2) a1 a2 a3 a4⟩
    refine ite_i (fun h => sp p m H rfl (Same.refl _) (.inl hp)) (fun h0 => k1 _ _ ?_)
    clear k1
    refine seqI fun K1 k1 => ?_
    walk_at "rd"
    refine ite_i (fun h => ?_) (fun h1 => k1 _ _ ?_)
    · refine ⟨_, hp, fun p1 n1 => ?_⟩
      exact sp p1 m _ rfl (same_new n1) (.inr upd_same)
    clear k1
    walk_at "rd"
    exact sp p 16 H (by omega) (Same.refl _) (.inl hp)
end
section
variable {P : Program} {w : World} {K : PySem.W.Frag} {mg : Str → Option Value} {base : Heap}
theorem ok__law_best (S : Src K mg "_law_best" s__law_best) (T : Tx P K mg) (C__law_told : Cal P w K mg base (L2.CX P w) 7 "_law_told" ["_law_rows_here", "_law_limit", "_law_way"] (spToldB K)) (C_Lot_MU_iterU : CalM P w K mg base CX0 1 (He.ga K "Lot") "__iter__" ["self"] (spTIter K)) (C_Lot_MU_lenU : CalM P w K mg base CX0 1 (He.ga K "Lot") "__len__" ["self"] (spTLen K)) (C__law_distinct : Cal P w K mg base CX0 1 "_law_distinct" ["_law_words"] spDist) (C__law_runs : Cal P w K mg base CX0 3 "_law_runs" ["_law_rows_here"] spRunsT) (C__law_base : Cal P w K mg base CX0 3 "_law_base" ["_law_rows_here", "_law_table"] spBaseT) (C__law_size : Cal P w K mg base CX0 3 "_law_size" ["_law_table", "_law_base_here", "_law_names"] spSizeT) (C__law_rivals : Cal P w K mg base CX0 1 "_law_rivals" ["_law_table", "_law_limit"] spRivals) (C__law_greatest : Cal P w K mg base CX0 1 "_law_greatest" ["_law_table", "_law_limit"] spGreat) (C_total : Cal P w K mg base (L2.CX P w) 5 "total" ["texts", "lot"] (spTotal K)) (C__law_integer : Cal P w K mg base CX0 1 "_law_integer" ["_law_thing"] spInteger)  : Cal P w K mg base CX0 8 "_law_best" ["_law_rows_here", "_law_limit", "_law_way", "_law_rival"] (spLBest K) := by
  refine S.cal sc__law_best bn__law_best (fun vs H Q E h => ?_) (fun f cdv A outer s H vs Q E hr h => ?_)
  · first | (obtain ⟨rfl, _⟩ := h; rfl) | (obtain ⟨_, rfl, _⟩ := h; rfl) | (obtain ⟨_, _, rfl, _⟩ := h; rfl) | (obtain ⟨_, _, _, rfl, _⟩ := h; rfl) | (obtain ⟨_, _, _, _, rfl, _⟩ := h; rfl) | (obtain ⟨_, _, _, _, _, rfl, _⟩ := h; rfl) | (obtain ⟨_, _, _, _, _, _, rfl, _⟩ := h; rfl) | (obtain ⟨_, _, _, _, _, _, _, rfl, _⟩ := h; rfl) | (obtain ⟨_, _, _, _, _, _, _, _, rfl, _⟩ := h; rfl) | (obtain ⟨_, _, _, _, _, _, _, _, _, rfl, _⟩ := h; rfl)
  · skip
    obtain ⟨f_Lot_MU_iterU, fd_Lot_MU_iterU, m_Lot_MU_iterU, b_Lot_MU_iterU, G_Lot_MU_iterU⟩ := C_Lot_MU_iterU.ex
    obtain ⟨f_Lot_MU_lenU, fd_Lot_MU_lenU, m_Lot_MU_lenU, b_Lot_MU_lenU, G_Lot_MU_lenU⟩ := C_Lot_MU_lenU.ex
    refine ⟨_, (pss_cons (ps_set (i := 4) sc__law_best.nd rfl (Or.inl rfl) (Fx.pe_cTy Fx.list_L T.b_list (by decide +kernel) (Fx.pa_c (pv 0) pa_nil)))
        (pss_cons (ps_set (i := 5) sc__law_best.nd rfl (Or.inl rfl) (Fx.pe_cal C__law_told (hr.mono (by decide)) Fx.passX (Fx.pa_c (pv 0) (Fx.pa_c (pv 1) (Fx.pa_c (pv 2) pa_nil)))))
        (pss_cons (ps_if (PW.pt (pw_or (pt_cmpR (Fx.ne_LL hr.units) (pv 0) (pv 4) (nomark _)) (pw_or1 (pt_not (pt_val (Fx.pe_cB Fx.is_I T.b_isinstance (by decide +kernel) (Fx.pa_c (pv 5) (Fx.pa_c (pe_glob (v := .ref (He.ga K "Lot")) rfl T.g_Lot rfl) pa_nil)))))))) (pss_one (ps_ret pe_bl)) pss_nil)
        (pss_cons (ps_set (i := 6) sc__law_best.nd rfl (Or.inr rfl) (Fx.pe_cTy (Fx.list_O C_Lot_MU_iterU C_Lot_MU_lenU rfl (hr.mono (by decide))) T.b_list (by decide +kernel) (Fx.pa_c (pv 5) pa_nil)))
        (pss_cons (ps_if (PW.pt (pw_or (pt_cmpR op_gt (Fx.pe_cB Fx.len_L T.b_len (by decide +kernel) (Fx.pa_c (pv 6) pa_nil)) (pv 1) (nomark _)) (pw_or (pt_cmpR op_ne (Fx.pe_cB (Fx.len_O C_Lot_MU_lenU (hr.mono (by decide)) pass0) T.b_len (by decide +kernel) (Fx.pa_c (pv 5) pa_nil)) (Fx.pe_cB Fx.len_L T.b_len (by decide +kernel) (Fx.pa_c (pv 6) pa_nil)) (nomark _)) (pw_or1 (pt_cmpR (Fx.ne_LL hr.units) (pv 6) (Fx.pe_cal C__law_distinct (hr.mono (by decide)) pass0 (Fx.pa_c (pv 6) pa_nil)) (nomark _)))))) (pss_one (ps_ret pe_bl)) pss_nil)
        (pss_cons (ps_set (i := 7) sc__law_best.nd rfl (Or.inl rfl) (Fx.pe_cal C__law_runs (hr.mono (by decide)) pass0 (Fx.pa_c (pv 0) pa_nil)))
        (pss_cons (ps_set (i := 8) sc__law_best.nd rfl (Or.inl rfl) (Fx.pe_cal C__law_base (hr.mono (by decide)) pass0 (Fx.pa_c (pv 0) (Fx.pa_c (pv 7) pa_nil))))
        (pss_cons (ps_set (i := 9) sc__law_best.nd rfl (Or.inl rfl) (Fx.pe_cal C__law_size (hr.mono (by decide)) pass0 (Fx.pa_c (pv 7) (Fx.pa_c (pv 8) (Fx.pa_c (pv 6) pa_nil)))))
        (pss_cons (ps_set (i := 10) sc__law_best.nd rfl (Or.inl rfl) (pe_op op_cat (pe_lc (own := [("_law_other", 13)]) rfl sc__law_best.nd (pi_list (pv 6)) (blkOk_by (N := N__law_best) (sc := defScope s__law_best) (by decide +kernel)) (fun _ _ _ _ _ => (pg_name (i := 13) sc__law_best.nd rfl (Or.inr rfl))) (fun _ _ _ _ _ => pts_nil) (fun _ _ _ _ _ => (by refine pe_lc (own := [("_law_word_here", 14)]) (wi := iList K (tVar 6)) (g := gName 14) (tt := tTest (tOp rNe (tVar 14) (tVar 13))) (te := tVar 14) ?ca ?cb ?cc ?cd ?ce ?cf ?cg; (case ca => rfl); (case cb => exact sc__law_best.nd); (case cc => exact (pi_list (pv 6))); (case cd => exact (Fx.blkOk_cast (by kernel_rfl) (blkOk_by (N := N__law_best) (sc := ({ kind := .function, names := [(".0", .local), ("_law_other", .cell), ("_law_names", .cell)], isGenerator := false, isCoroutine := false } : Scope)) (by decide +kernel)))); (case ce => exact (fun _ _ _ _ _ => (pg_name (i := 14) sc__law_best.nd rfl (Or.inl rfl)))); (case cf => exact (fun _ _ _ _ _ => (pts_one (pt_cmpR op_ne (pv 14) (pv 13) (nomark _))))); (case cg => exact (fun _ _ _ _ _ => (pv 14)))))) (pe_lst (Fx.pa_c (pe_slice Fx.sl_L (pv 3) po_none (po_some (pv 1))) pa_nil))))
        (pss_cons (ps_if (pt_cmpR op_le (Fx.pe_cB Fx.len_L T.b_len (by decide +kernel) (Fx.pa_c (pv 7) pa_nil)) pe_int (nomark _)) (pss_one (ps_set (i := 10) sc__law_best.nd rfl (Or.inl rfl) (pe_op op_cat (pv 10) (Fx.pe_cal C__law_rivals (hr.mono (by decide)) pass0 (Fx.pa_c (pv 7) (Fx.pa_c (pv 1) pa_nil)))))) (pss_one (ps_if (pt_cmpR (Fx.ne_LL hr.units) (pv 6) (Fx.pe_cal C__law_greatest (hr.mono (by decide)) pass0 (Fx.pa_c (pv 7) (Fx.pa_c (pv 1) pa_nil))) (nomark _)) (pss_one (ps_ret pe_bl)) pss_nil)))
        (pss_cons (ps_for PassesOwn.never rfl (pi_list (pv 10)) (pg_name (i := 11) sc__law_best.nd rfl (Or.inl rfl)) (pss_one (ps_if (pt_cmpR (Fx.op_gtD hr.units) (pe_lst (Fx.pa_c (pv 9) (Fx.pa_c (Fx.pe_cB Fx.len_L T.b_len (by decide +kernel) (Fx.pa_c (pv 6) pa_nil)) (Fx.pa_c (pv 6) pa_nil)))) (pe_lst (Fx.pa_c (Fx.pe_cal C__law_size (hr.mono (by decide)) pass0 (Fx.pa_c (pv 7) (Fx.pa_c (pv 8) (Fx.pa_c (pv 11) pa_nil)))) (Fx.pa_c (Fx.pe_cB Fx.len_L T.b_len (by decide +kernel) (Fx.pa_c (pv 11) pa_nil)) (Fx.pa_c (pv 11) pa_nil)))) (nomark _)) (pss_one (ps_ret pe_bl)) pss_nil)))
        (pss_cons (ps_set (i := 12) sc__law_best.nd rfl (Or.inl rfl) (Fx.pe_cal C_total (hr.mono (by decide)) Fx.passX (Fx.pa_c (pv 0) (Fx.pa_c (pv 5) pa_nil))))
        (pss_one (ps_ret (pe_and (Fx.pe_cal C__law_integer (hr.mono (by decide)) pass0 (Fx.pa_c (pv 12) pa_nil)) (pe_and (pe_cmpR op_eq (pv 12) (pv 9) (nomark _)) (pe_one (pe_cmpR (Fx.eq_LL hr.units) (pv 0) (pv 4) (nomark _))))))))))))))))))), ?_⟩
    obtain ⟨p, r, m, w, zs, rv, rfl, hp, hg, hl, hm, hw, hr, rs, rn, rl, rw_, q⟩ := h
    have lW : (words zs).length ≤ 60000 := by
      have := words_len hg zs.length
      rw [List.take_length] at this
      omega
    refine seqI fun K1 k1 => ?_
    walk_at "rd"
    refine ⟨_, hp, ?_⟩
    intro pk nk
    generalize e_pk : upd H pk _ = H1
    have s1 := new_s nk e_pk
    have hk := new_h e_pk
    clear e_pk
    try (first | replace hp := s1 _ _ hp | replace hp := hp.same s1 | replace hp := hp.then s1 | replace hp := hp.trans s1)
    try (first | replace hr := s1 _ _ hr | replace hr := hr.same s1 | replace hr := hr.then s1 | replace hr := hr.trans s1)
    refine k1 _ _ ?_
    clear k1
    refine seqI fun K1 k1 => ?_
    walk_at "rd"
    refine ⟨p, m, w, zs, rfl, hp, hg, hl, hm, hw, fun x D P ws H2 s2 dD bP dP L => k1 _ _ ?_⟩
    clear k1
    try (first | replace hp := s2 _ _ hp | replace hp := hp.same s2 | replace hp := hp.then s2 | replace hp := hp.trans s2)
    try (first | replace hr := s2 _ _ hr | replace hr := hr.same s2 | replace hr := hr.then s2 | replace hr := hr.trans s2)
    try (first | replace hk := s2 _ _ hk | replace hk := hk.same s2 | replace hk := hk.then s2 | replace hk := hk.trans s2)
    try (first | replace s1 := s2 _ _ s1 | replace s1 := s1.same s2 | replace s1 := s1.then s2 | replace s1 := s1.trans s2)
    have eF : (ms zs).all isF = true := by
      rw [List.all_map]
      refine List.all_eq_true.mpr fun z hz => ?_
      show PyData.strOk z = true
      unfold PyData.strOk
      rw [← Array.all_toList, List.all_eq_true]
      intro c hc
      exact decide_eq_true (Nat.lt_trans (sign1_lt c (judge_all (hg z hz) c hc)) (by decide))
    refine seqI fun K1 k1 => ?_
    walk_at "rd"
    obtain ⟨dx0, fl0, hx0⟩ := L.ins
    refine ⟨_, hp, _, hk, eF, eF, ?_⟩
    rw [if_pos rfl]
    have hI := insC_of T.cl_Lot T.i_Lot
    have kLot : PySem.W.kitOne K (.ref (He.ga K "Lot")) (.ref (He.ga K "Lot")) = some true := hI.me
    refine ⟨_, _, _, hx0, hI, _, rfl, _, kLot, ?_⟩
    rw [if_neg (by decide)]
    refine k1 _ _ ?_
    clear k1
    refine seqI fun K1 k1 => ?_
    walk_at "rd"
    have okL := L.1
    have lw := okL.lt
    refine ⟨_, _, hx0, fun q1 nq1 => ⟨x, ws, rfl, L.same (same_new nq1), fun it pt hpt nit => ?_⟩⟩
    have sA := (same_new (o := .lst []) nq1).trans (same_new (o := TItO pt it 0) nit)
    have hq1 : upd (upd H2 q1 (.lst [])) it (TItO pt it 0) q1 = some (.lst []) := same_new nit _ _ upd_same
    refine ⟨it, rfl, pt, upd_same, dx0, _, sA _ _ hx0, x, ws, rfl, L.same sA, ws.length, rfl, by omega, by omega, upd_same, hq1, ms ws, hpt.same (same_new nit), ?_⟩
    have nit0 : H2 it = none := (same_new nq1).free nit
    have s3 : Same H2 (upd (upd (upd (upd H2 q1 (.lst [])) it (TItO pt it 0)) it (EndO it)) q1 (.lst (ms ws))) := fun b o e => by
      rw [upd_ne (ne_of_none e nq1), upd_ne (ne_of_none e nit0)]
      exact sA _ _ e
    have hn3 : (upd (upd (upd (upd H2 q1 (.lst [])) it (TItO pt it 0)) it (EndO it)) q1 (.lst (ms ws))) q1 = some (.lst (ms ws)) := upd_same
    generalize upd (upd (upd (upd H2 q1 (.lst [])) it (TItO pt it 0)) it (EndO it)) q1 (.lst (ms ws)) = H3 at s3 hn3
    refine k1 _ _ ?_
    clear k1 sA hq1 hpt nit0 nit
    try (first | replace hp := s3 _ _ hp | replace hp := hp.same s3 | replace hp := hp.then s3 | replace hp := hp.trans s3)
    try (first | replace hr := s3 _ _ hr | replace hr := hr.same s3 | replace hr := hr.then s3 | replace hr := hr.trans s3)
    try (first | replace hk := s3 _ _ hk | replace hk := hk.same s3 | replace hk := hk.then s3 | replace hk := hk.trans s3)
    try (first | replace s1 := s3 _ _ s1 | replace s1 := s1.same s3 | replace s1 := s1.then s3 | replace s1 := s1.trans s3)
    try (first | replace L := s3 _ _ L | replace L := L.same s3 | replace L := L.then s3 | replace L := L.trans s3)
    try (first | replace hx0 := s3 _ _ hx0 | replace hx0 := hx0.same s3 | replace hx0 := hx0.then s3 | replace hx0 := hx0.trans s3)
    obtain ⟨_, lP, pP, _⟩ := best_ok (O := []) dD.2.1 bP dP .nil List.nodup_nil (Nat.zero_le _) (fun w hw => by cases hw)
    have lwm : ws.length ≤ m := by
      rw [pP.length_eq]
      exact lP
    have fW : (ms ws).all isF = true := isF_sw okL.ok
    refine seqI fun K1 k1 => ?_
    refine ifI fun A B ka kb => ?_
    walk_at "rd"
    refine ⟨_, hn3, ?_⟩
    rw [if_neg (by rw [List.length_map]; omega)]
    refine ⟨_, _, hx0, x, ws, rfl, L, _, rfl, by omega, by omega, _, hn3, ?_⟩
    rw [if_pos (by rw [List.length_map])]
    refine ⟨q1, ws, rfl, hn3, by omega, fun q2 ys H4 s4 dY nq2 hq2 => ⟨q2, rfl, _, s4 _ _ hn3, _, hq2, fW, ?_, ?_⟩⟩
    · exact isF_sw fun z hz => okL.ok z ((dY.2.2 z).mp hz)
    obtain rfl := dist_same okL.so okL.nd dY
    rw [if_pos rfl]
    try (first | replace hp := s4 _ _ hp | replace hp := hp.same s4 | replace hp := hp.then s4 | replace hp := hp.trans s4)
    try (first | replace hr := s4 _ _ hr | replace hr := hr.same s4 | replace hr := hr.then s4 | replace hr := hr.trans s4)
    try (first | replace hk := s4 _ _ hk | replace hk := hk.same s4 | replace hk := hk.then s4 | replace hk := hk.trans s4)
    try (first | replace s1 := s4 _ _ s1 | replace s1 := s1.same s4 | replace s1 := s1.then s4 | replace s1 := s1.trans s4)
    try (first | replace L := s4 _ _ L | replace L := L.same s4 | replace L := L.then s4 | replace L := L.trans s4)
    try (first | replace hx0 := s4 _ _ hx0 | replace hx0 := hx0.same s4 | replace hx0 := hx0.then s4 | replace hx0 := hx0.trans s4)
    try (first | replace hn3 := s4 _ _ hn3 | replace hn3 := hn3.same s4 | replace hn3 := hn3.then s4 | replace hn3 := hn3.trans s4)
    refine kb _ ?_
    clear ka kb
    walk_at "rd"
    refine k1 _ _ ?_
    clear k1
    refine seqI fun K1 k1 => ?_
    walk_at "rd"
    refine ⟨p, zs, rfl, hp, hg, hl, fun qt D2 H5 s5 nqt dD2 tab => k1 _ _ ?_⟩
    clear k1
    obtain rfl := dist_one dD dD2
    try (first | replace hp := s5 _ _ hp | replace hp := hp.same s5 | replace hp := hp.then s5 | replace hp := hp.trans s5)
    try (first | replace hr := s5 _ _ hr | replace hr := hr.same s5 | replace hr := hr.then s5 | replace hr := hr.trans s5)
    try (first | replace hk := s5 _ _ hk | replace hk := hk.same s5 | replace hk := hk.then s5 | replace hk := hk.trans s5)
    try (first | replace s1 := s5 _ _ s1 | replace s1 := s1.same s5 | replace s1 := s1.then s5 | replace s1 := s1.trans s5)
    try (first | replace L := s5 _ _ L | replace L := L.same s5 | replace L := L.then s5 | replace L := L.trans s5)
    try (first | replace hx0 := s5 _ _ hx0 | replace hx0 := hx0.same s5 | replace hx0 := hx0.then s5 | replace hx0 := hx0.trans s5)
    try (first | replace hn3 := s5 _ _ hn3 | replace hn3 := hn3.same s5 | replace hn3 := hn3.then s5 | replace hn3 := hn3.trans s5)
    have lD : D.length ≤ 60000 := by
      have := dist_len dD
      omega
    have swD : ∀ w ∈ D, isSW w = true := fun f hf => by
      obtain ⟨z, _, _, h⟩ := mem_words.mp ((dD.2.2 f).mp hf)
      exact h
    have lDw : ∀ w ∈ D, w.length ≤ 1000 := fun w hw => by
      have := isSW_len (swD w hw)
      omega
    have Tsame : ∀ {H6 H7 : Hp}, Tab H6 qt D (words zs) → Same H6 H7 → Tab H7 qt D (words zs) := fun ⟨as, a1, a2, a3⟩ s => ⟨as, s _ _ a1, a2, fun i a w e1 e2 => s _ _ (a3 i a w e1 e2)⟩
    refine seqI fun K1 k1 => ?_
    walk_at "rd"
    refine ⟨p, qt, zs, D, rfl, hp, hg, hl, tab, lD, fun H6 s6 => k1 _ _ ?_⟩
    clear k1
    try (first | replace hp := s6 _ _ hp | replace hp := hp.same s6 | replace hp := hp.then s6 | replace hp := hp.trans s6)
    try (first | replace hr := s6 _ _ hr | replace hr := hr.same s6 | replace hr := hr.then s6 | replace hr := hr.trans s6)
    try (first | replace hk := s6 _ _ hk | replace hk := hk.same s6 | replace hk := hk.then s6 | replace hk := hk.trans s6)
    try (first | replace s1 := s6 _ _ s1 | replace s1 := s1.same s6 | replace s1 := s1.then s6 | replace s1 := s1.trans s6)
    try (first | replace L := s6 _ _ L | replace L := L.same s6 | replace L := L.then s6 | replace L := L.trans s6)
    try (first | replace hx0 := s6 _ _ hx0 | replace hx0 := hx0.same s6 | replace hx0 := hx0.then s6 | replace hx0 := hx0.trans s6)
    try (first | replace hn3 := s6 _ _ hn3 | replace hn3 := hn3.same s6 | replace hn3 := hn3.then s6 | replace hn3 := hn3.trans s6)
    replace tab := Tsame tab s6
    generalize hbn : baseN D zs = bn
    refine seqI fun K1 k1 => ?_
    walk_at "rd"
    have szT : ∀ (H7 : Hp) (r : Addr) (O : List Str) (Q1 : VK), Tab H7 qt D (words zs) → H7 r = some (.lst (ms O)) → GoodO 16 O → (∀ H8, Same H7 H8 → Q1 (.int (sizeN (words zs) D bn O)) H8) → spSizeT [.ref qt, .int bn, .ref r] H7 Q1 E0 := fun H7 r O Q1 t hr gO k => ⟨qt, r, bn, words zs, D, O, rfl, t, lD, lW, lDw, hr, by have := gO.2.2.1; omega, fun w hw => by have := isSW_len (gO.2.2.2 w hw); omega, k⟩
    have gW : GoodO 16 ys := ⟨sorted_pw okL.so, okL.nd, lw, okL.ok⟩
    refine szT H6 q1 ys _ tab hn3 gW fun H7 s7 => k1 _ _ ?_
    clear k1
    try (first | replace hp := s7 _ _ hp | replace hp := hp.same s7 | replace hp := hp.then s7 | replace hp := hp.trans s7)
    try (first | replace hr := s7 _ _ hr | replace hr := hr.same s7 | replace hr := hr.then s7 | replace hr := hr.trans s7)
    try (first | replace hk := s7 _ _ hk | replace hk := hk.same s7 | replace hk := hk.then s7 | replace hk := hk.trans s7)
    try (first | replace s1 := s7 _ _ s1 | replace s1 := s1.same s7 | replace s1 := s1.then s7 | replace s1 := s1.trans s7)
    try (first | replace L := s7 _ _ L | replace L := L.same s7 | replace L := L.then s7 | replace L := L.trans s7)
    try (first | replace hx0 := s7 _ _ hx0 | replace hx0 := hx0.same s7 | replace hx0 := hx0.then s7 | replace hx0 := hx0.trans s7)
    try (first | replace hn3 := s7 _ _ hn3 | replace hn3 := hn3.same s7 | replace hn3 := hn3.then s7 | replace hn3 := hn3.trans s7)
    replace tab := Tsame tab s7
    generalize hls : sizeN (words zs) D bn ys = least
    have better : ∀ O, GoodO m O → PySem.W.dataLt (.list [.int (sizeN (words zs) D bn O), .int (O.length : Nat), .list (O.map PyData.str)]) (.list [.int least, .int (ys.length : Nat), .list (ys.map PyData.str)]) = false := fun O gO => by
      obtain ⟨_, _, _, h1, h2, h3⟩ := best_ok dD.2.1 bP dP gO.1 gO.2.1 gO.2.2.1 (fun w _ h => (dD.2.2 w).mpr (neg_mem h))
      rw [cmp3, ← hls, sizeN_eq dD.2.1 gO.2.1 dD.2.2, sizeN_eq dD.2.1 okL.nd dD.2.2]
      by_cases e : sumV (costV (words zs)) O = sumV (costV (words zs)) ys
      · rw [if_pos (by omega)]
        have h2 := h2 e.symm
        by_cases e2 : O.length = ys.length
        · rw [if_pos (by omega)]
          exact h3 e.symm e2.symm
        · rw [if_neg (by omega)]
          exact decide_eq_false (by omega)
      · rw [if_neg (by omega)]
        exact decide_eq_false (by omega)
    refine seqI fun K1 k1 => ?_
    refine ⟨_, rfl, q1, rfl, ⟨_, .inl (.inl hn3)⟩, fun Dr nDr => ?_⟩
    have gWm : GoodO m ys := ⟨gW.1, gW.2.1, lwm, gW.2.2.2⟩
    have rvOk : GoodO m (rv.take m) := ⟨(sorted_pw rs).sublist (List.take_sublist _ _), rn.sublist (List.take_sublist _ _), by rw [List.length_take]; omega, fun w hw => rw_ w (List.mem_of_mem_take hw)⟩
    refine lc_list (K := K) (a := q1) (xs := ms ys) (fun j H' => ∃ cs : List Addr, cs.length = j ∧ H' Dr = some (.lst (cs.map V.ref)) ∧ (∀ a ∈ cs, a ≠ Dr ∧ ∃ l, H' a = some (.lst (ms l)) ∧ GoodO m l) ∧ Same H7 H') ⟨[], rfl, upd_same, fun a ha => (by cases ha), same_new nDr⟩ (fun j H' _ ⟨_, _, _, _, s⟩ => .inl (.inl (s _ _ hn3))) ?_ ?_
    · rintro j y H8 hy ⟨cs, lc, hDr, hcs, s8⟩
      obtain ⟨ot, rfl, hot, eg, hj, ej⟩ := ms_get hy
      have hn8 := s8 _ _ hn3
      refine ⟨rfl, ?_⟩
      walk_at "rd"
      refine ⟨_, rfl, q1, rfl, ⟨_, .inl (.inl hn8)⟩, fun Di nDi => ?_⟩
      refine lcL (xs := ms ys) (fun i => if (fun z => !decide (z = ot)) (ys.getD i "") = true then [V.str (ys.getD i "")] else []) nDi hn8 ?_ ?_
      · intro i y H9 hy h9
        obtain ⟨z, rfl, hz, eg2, hi, ei⟩ := ms_get hy
        refine ⟨rfl, ?_⟩
        walk_at "rd"
        refine ite_i (fun g => ?_) (fun g => ?_)
        · exact h9.skip (Same.refl _) (by rw [eg2]; exact if_neg (by simpa using g))
        · exact h9.put nDi (fun _ => by dsimp only; split <;> simp) (by omega) (Same.refl _) (by rw [eg2]; exact if_pos (by simpa using g))
      intro H9 s9 h9
      rw [flat_filter (fun z => !decide (z = ot))] at h9
      have nDD : Di ≠ Dr := fun e => by rw [e, hDr] at nDi; cases nDi
      refine ⟨_, s9 _ _ hDr, ?_, cs ++ [Di], ?_, ?_, fun a ha => ?_, Same.put (s8.trans s9) nDr⟩
      · rw [List.length_map, lc]
        exact Nat.lt_of_lt_of_le (by omega : _ < 100) (by decide)
      · rw [List.length_append, lc]
        rfl
      · rw [List.map_append]
        rfl
      · rcases List.mem_append.mp ha with ha | ha
        · obtain ⟨na, l, hl', gl⟩ := hcs a ha
          exact ⟨na, l, by rw [upd_ne na]; exact s9 _ _ hl', gl⟩
        · rw [List.mem_singleton.mp ha]
          exact ⟨nDD, _, by rw [upd_ne nDD]; exact h9, gWm.sub List.filter_sublist⟩
    rintro H8 ⟨cs, lc, hDr, hcs, s8⟩
    rw [List.length_map] at lc
    try (first | replace hp := s8 _ _ hp | replace hp := hp.same s8 | replace hp := hp.then s8 | replace hp := hp.trans s8)
    try (first | replace hr := s8 _ _ hr | replace hr := hr.same s8 | replace hr := hr.then s8 | replace hr := hr.trans s8)
    try (first | replace hk := s8 _ _ hk | replace hk := hk.same s8 | replace hk := hk.then s8 | replace hk := hk.trans s8)
    try (first | replace s1 := s8 _ _ s1 | replace s1 := s1.same s8 | replace s1 := s1.then s8 | replace s1 := s1.trans s8)
    try (first | replace L := s8 _ _ L | replace L := L.same s8 | replace L := L.then s8 | replace L := L.trans s8)
    try (first | replace hx0 := s8 _ _ hx0 | replace hx0 := hx0.same s8 | replace hx0 := hx0.then s8 | replace hx0 := hx0.trans s8)
    try (first | replace hn3 := s8 _ _ hn3 | replace hn3 := hn3.same s8 | replace hn3 := hn3.then s8 | replace hn3 := hn3.trans s8)
    replace tab := Tsame tab s8
    have hcs : ∀ a ∈ cs, ∃ l, H8 a = some (.lst (ms l)) ∧ GoodO m l := fun a ha => (hcs a ha).2
    have Csame : ∀ {H6 H7 : Hp} {cs : List Addr}, (∀ a ∈ cs, ∃ l, H6 a = some (.lst (ms l)) ∧ GoodO m l) → Same H6 H7 → ∀ a ∈ cs, ∃ l, H7 a = some (.lst (ms l)) ∧ GoodO m l := fun h s a ha => by
      obtain ⟨l, h1, h2⟩ := h a ha
      exact ⟨l, s _ _ h1, h2⟩
    walk_at "rd"
    refine ⟨_, hr, ?_⟩
    have nr : ∀ q : Addr, H8 q = none → H8 q = none := fun _ h => h
    intro qa na
    generalize e_qa : upd H8 qa _ = H9
    have s9 := new_s na e_qa
    have ha := new_h e_qa
    clear e_qa
    try (first | replace hp := s9 _ _ hp | replace hp := hp.same s9 | replace hp := hp.then s9 | replace hp := hp.trans s9)
    try (first | replace hr := s9 _ _ hr | replace hr := hr.same s9 | replace hr := hr.then s9 | replace hr := hr.trans s9)
    try (first | replace hk := s9 _ _ hk | replace hk := hk.same s9 | replace hk := hk.then s9 | replace hk := hk.trans s9)
    try (first | replace s1 := s9 _ _ s1 | replace s1 := s1.same s9 | replace s1 := s1.then s9 | replace s1 := s1.trans s9)
    try (first | replace L := s9 _ _ L | replace L := L.same s9 | replace L := L.then s9 | replace L := L.trans s9)
    try (first | replace hx0 := s9 _ _ hx0 | replace hx0 := hx0.same s9 | replace hx0 := hx0.then s9 | replace hx0 := hx0.trans s9)
    try (first | replace hn3 := s9 _ _ hn3 | replace hn3 := hn3.same s9 | replace hn3 := hn3.then s9 | replace hn3 := hn3.trans s9)
    try (first | replace hDr := s9 _ _ hDr | replace hDr := hDr.same s9 | replace hDr := hDr.then s9 | replace hDr := hDr.trans s9)
    rw [cutV_hi, ← List.map_take] at ha
    replace tab := Tsame tab s9
    replace hcs := Csame hcs s9
    refine ⟨by decide, ?_⟩
    intro qb nb
    generalize e_qb : upd H9 qb _ = H10
    have s10 := new_s nb e_qb
    have hb := new_h e_qb
    clear e_qb
    try (first | replace hp := s10 _ _ hp | replace hp := hp.same s10 | replace hp := hp.then s10 | replace hp := hp.trans s10)
    try (first | replace hr := s10 _ _ hr | replace hr := hr.same s10 | replace hr := hr.then s10 | replace hr := hr.trans s10)
    try (first | replace hk := s10 _ _ hk | replace hk := hk.same s10 | replace hk := hk.then s10 | replace hk := hk.trans s10)
    try (first | replace s1 := s10 _ _ s1 | replace s1 := s1.same s10 | replace s1 := s1.then s10 | replace s1 := s1.trans s10)
    try (first | replace L := s10 _ _ L | replace L := L.same s10 | replace L := L.then s10 | replace L := L.trans s10)
    try (first | replace hx0 := s10 _ _ hx0 | replace hx0 := hx0.same s10 | replace hx0 := hx0.then s10 | replace hx0 := hx0.trans s10)
    try (first | replace hn3 := s10 _ _ hn3 | replace hn3 := hn3.same s10 | replace hn3 := hn3.then s10 | replace hn3 := hn3.trans s10)
    try (first | replace hDr := s10 _ _ hDr | replace hDr := hDr.same s10 | replace hDr := hDr.then s10 | replace hDr := hDr.trans s10)
    try (first | replace ha := s10 _ _ ha | replace ha := ha.same s10 | replace ha := ha.then s10 | replace ha := ha.trans s10)
    replace tab := Tsame tab s10
    replace hcs := Csame hcs s10
    refine ⟨_, hDr, ?_, ?_⟩
    · rw [List.length_map]
      exact sz (by omega)
    have ecs : cs.map V.ref ++ [V.ref qa] = (cs ++ [qa]).map V.ref := by rw [List.map_append]; rfl
    rw [ecs]
    intro qc nc
    generalize e_qc : upd H10 qc _ = H11
    have s11 := new_s nc e_qc
    have hc := new_h e_qc
    clear e_qc
    try (first | replace hp := s11 _ _ hp | replace hp := hp.same s11 | replace hp := hp.then s11 | replace hp := hp.trans s11)
    try (first | replace hr := s11 _ _ hr | replace hr := hr.same s11 | replace hr := hr.then s11 | replace hr := hr.trans s11)
    try (first | replace hk := s11 _ _ hk | replace hk := hk.same s11 | replace hk := hk.then s11 | replace hk := hk.trans s11)
    try (first | replace s1 := s11 _ _ s1 | replace s1 := s1.same s11 | replace s1 := s1.then s11 | replace s1 := s1.trans s11)
    try (first | replace L := s11 _ _ L | replace L := L.same s11 | replace L := L.then s11 | replace L := L.trans s11)
    try (first | replace hx0 := s11 _ _ hx0 | replace hx0 := hx0.same s11 | replace hx0 := hx0.then s11 | replace hx0 := hx0.trans s11)
    try (first | replace hn3 := s11 _ _ hn3 | replace hn3 := hn3.same s11 | replace hn3 := hn3.then s11 | replace hn3 := hn3.trans s11)
    try (first | replace hDr := s11 _ _ hDr | replace hDr := hDr.same s11 | replace hDr := hDr.then s11 | replace hDr := hDr.trans s11)
    try (first | replace ha := s11 _ _ ha | replace ha := ha.same s11 | replace ha := ha.then s11 | replace ha := ha.trans s11)
    try (first | replace hb := s11 _ _ hb | replace hb := hb.same s11 | replace hb := hb.then s11 | replace hb := hb.trans s11)
    try (first | replace ha := s11 _ _ ha | replace ha := ha.same s11 | replace ha := ha.then s11 | replace ha := ha.trans s11)
    replace tab := Tsame tab s11
    replace hcs := Csame hcs s11
    refine k1 _ _ ?_
    clear k1
    have hcs2 : ∀ a ∈ cs ++ [qa], ∃ l, H11 a = some (.lst (ms l)) ∧ GoodO m l := fun a h => by
      rcases List.mem_append.mp h with h | h
      · exact hcs a h
      · rw [List.mem_singleton.mp h]
        exact ⟨_, ha, rvOk⟩
    have lcs : (cs ++ [qa]).length ≤ 20 := by
      rw [List.length_append]
      show _ + 1 ≤ _
      omega
    generalize cs ++ [qa] = bs at hc hcs2 lcs
    clear hcs ha hDr hb ecs lc
    obtain ⟨as, hta, lta, _⟩ := id tab
    have lal : ((as.map V.ref).length : Int) = D.length := by rw [List.length_map, lta]
    refine seqI fun K1 k1 => ?_
    have rest : ∀ (qd : Addr) (ds : List Addr) (H12 : Hp), Same H11 H12 → H12 qd = some (.lst (ds.map V.ref)) → (∀ a ∈ ds, ∃ l, H12 a = some (.lst (ms l)) ∧ GoodO m l) → K1 [some (.ref p), some (.int m), some (.int w), some (.ref r), some (.ref pk), some (.ref x), some (.ref q1), some (.ref qt), some (.int bn), some (.int least), some (.ref qd), none, none, none, none] H12 := by
      intro qd ds H12 s12 hd hds
      refine k1 _ _ ?_
      clear k1
      have tab := Tsame tab s12
      try (first | replace hp := s12 _ _ hp | replace hp := hp.same s12 | replace hp := hp.then s12 | replace hp := hp.trans s12)
      try (first | replace hr := s12 _ _ hr | replace hr := hr.same s12 | replace hr := hr.then s12 | replace hr := hr.trans s12)
      try (first | replace hk := s12 _ _ hk | replace hk := hk.same s12 | replace hk := hk.then s12 | replace hk := hk.trans s12)
      try (first | replace s1 := s12 _ _ s1 | replace s1 := s1.same s12 | replace s1 := s1.then s12 | replace s1 := s1.trans s12)
      try (first | replace L := s12 _ _ L | replace L := L.same s12 | replace L := L.then s12 | replace L := L.trans s12)
      try (first | replace hx0 := s12 _ _ hx0 | replace hx0 := hx0.same s12 | replace hx0 := hx0.then s12 | replace hx0 := hx0.trans s12)
      try (first | replace hn3 := s12 _ _ hn3 | replace hn3 := hn3.same s12 | replace hn3 := hn3.then s12 | replace hn3 := hn3.trans s12)
      refine seqI fun K1 k1 => ?_
      refine ⟨_, rfl, qd, rfl, ⟨_, .inl (.inl hd)⟩, for_list (K := K) (a := qd) (xs := ds.map V.ref) (fun i σ H' => ∃ v11 v12, σ = [some (.ref p), some (.int m), some (.int w), some (.ref r), some (.ref pk), some (.ref x), some (.ref q1), some (.ref qt), some (.int bn), some (.int least), some (.ref qd), v11, v12, none, none] ∧ Same H12 H') ⟨none, none, rfl, Same.refl _⟩ (fun i σ H' _ ⟨_, _, _, s⟩ => .inl (.inl (s _ _ hd))) ?_ ?_⟩
      · rintro i y σ H13 hy ⟨v11, v12, rfl, s13⟩
        clear k1
        obtain ⟨o, ho, rfl⟩ := List.mem_map.mp (List.mem_of_getElem? hy)
        obtain ⟨O, hO, gO⟩ := hds o ho
        have hO13 := s13 _ _ hO
        have hn13 := s13 _ _ hn3
        have tab := Tsame tab s13
        refine ifI fun A B ka kb => ?_
        have skipB : ∀ H14, Same H12 H14 → B H14 := fun H14 s14 => by
          refine kb _ ?_
          walk_at "rd"
          exact s14
        clear ka kb
        walk_at "rd"
        refine ⟨_, hn13, by decide, ?_⟩
        intro qg ng
        have sg := same_new (o := .lst [.int least, .int ((ms ys).length : Nat), .ref q1]) ng
        have hg1 : (upd H13 qg (.lst [.int least, .int ((ms ys).length : Nat), .ref q1])) qg = some (.lst [.int least, .int ((ms ys).length : Nat), .ref q1]) := upd_same
        generalize (upd H13 qg (.lst [.int least, .int ((ms ys).length : Nat), .ref q1])) = H14 at sg hg1
        refine szT H14 o O _ (Tsame tab sg) (sg _ _ hO13) ⟨gO.1, gO.2.1, by have := gO.2.2.1; omega, gO.2.2.2⟩ fun H15 s15 => ?_
        have hO15 := s15 _ _ (sg _ _ hO13)
        have hn15 := s15 _ _ (sg _ _ hn13)
        have hg15 := s15 _ _ hg1
        refine ⟨_, hO15, by decide, fun qh nh => ?_⟩
        have sh := same_new (o := .lst [.int (sizeN (words zs) D bn O), .int ((ms O).length : Nat), .ref o]) nh
        have dstr : ∀ (H' : Hp) (l : List Str), DpAll K H' (ms l) (l.map PyData.str) := fun H' l => by
          induction l with
          | nil => exact .nil
          | cons a l ih => exact .cons (.str _) ih
        have al : ∀ A B : List Str, PySem.W.alikeAll (A.map PyData.str) (B.map PyData.str) = true := fun A => by
          induction A with
          | nil => intro B; cases B <;> simp [PySem.W.alikeAll]
          | cons x A ih =>
            intro B
            cases B with
            | nil => simp [PySem.W.alikeAll]
            | cons y B => simp [PySem.W.alikeAll, PySem.W.alike, ih B]
        have dep : ∀ l : List Str, PyData.depthAll (l.map PyData.str) = 0 := fun l => by
          induction l with
          | nil => rfl
          | cons a l ih => simp [PyData.depthAll, PyData.depth, ih]
        refine ⟨.list [.int least, .int (ys.length : Nat), .list (ys.map PyData.str)], .list [.int (sizeN (words zs) D bn O), .int (O.length : Nat), .list (O.map PyData.str)], ?_, ?_, ?_, ?_, ?_, _, rfl, ?_⟩
        · refine .lst (.inl (.inl (sh _ _ hg15))) (.cons (.int _) (.cons ?_ (.cons (.lst (.inl (.inl (sh _ _ hn15))) (dstr _ ys)) .nil)))
          rw [show (ms ys).length = ys.length from List.length_map ..]
          exact .int _
        · refine .lst (.inl (.inl upd_same)) (.cons (.int _) (.cons ?_ (.cons (.lst (.inl (.inl (sh _ _ hO15))) (dstr _ O)) .nil)))
          rw [show (ms O).length = O.length from List.length_map ..]
          exact .int _
        · simp [PySem.W.alike, PySem.W.alikeAll, al]
        · intro h
          cases h
        · simp [PyData.depth, PyData.depthAll, dep]
        rw [better O gO, if_neg (by decide)]
        exact skipB _ (s13.trans (sg.trans (s15.trans sh)))
      rintro σ H13 ⟨v11, v12, rfl, s13⟩
      refine k1 _ _ ?_
      clear k1
      try (first | replace hp := s13 _ _ hp | replace hp := hp.same s13 | replace hp := hp.then s13 | replace hp := hp.trans s13)
      try (first | replace hr := s13 _ _ hr | replace hr := hr.same s13 | replace hr := hr.then s13 | replace hr := hr.trans s13)
      try (first | replace hk := s13 _ _ hk | replace hk := hk.same s13 | replace hk := hk.then s13 | replace hk := hk.trans s13)
      try (first | replace s1 := s13 _ _ s1 | replace s1 := s1.same s13 | replace s1 := s1.then s13 | replace s1 := s1.trans s13)
      try (first | replace L := s13 _ _ L | replace L := L.same s13 | replace L := L.then s13 | replace L := L.trans s13)
      try (first | replace hx0 := s13 _ _ hx0 | replace hx0 := hx0.same s13 | replace hx0 := hx0.then s13 | replace hx0 := hx0.trans s13)
      try (first | replace hn3 := s13 _ _ hn3 | replace hn3 := hn3.same s13 | replace hn3 := hn3.then s13 | replace hn3 := hn3.trans s13)
      refine seqI fun K1 k1 => ?_
      walk_at "rd"
      refine ⟨p, x, ms zs, ys, rfl, .inl hp, by rw [List.length_map]; exact hl, L, .inl ⟨zs, rfl, hg, fun H14 s14 => k1 _ _ ?_⟩⟩
      clear k1
      have et : tot ys zs = least := by
        rw [tot_eq dD.2.1 dD.2.2 (fun w hw => ?_), hbn, hls]
        have := pP.mem_iff.mp hw
        obtain ⟨L', hL', _, eP⟩ := bP.ex
        rw [eP] at this
        exact hL'.mem_iff.mp (List.mem_of_mem_take (List.mem_filter.mp this).1)
      rw [et]
      try (first | replace hp := s14 _ _ hp | replace hp := hp.same s14 | replace hp := hp.then s14 | replace hp := hp.trans s14)
      try (first | replace hr := s14 _ _ hr | replace hr := hr.same s14 | replace hr := hr.then s14 | replace hr := hr.trans s14)
      try (first | replace hk := s14 _ _ hk | replace hk := hk.same s14 | replace hk := hk.then s14 | replace hk := hk.trans s14)
      try (first | replace s1 := s14 _ _ s1 | replace s1 := s1.same s14 | replace s1 := s1.then s14 | replace s1 := s1.trans s14)
      try (first | replace L := s14 _ _ L | replace L := L.same s14 | replace L := L.then s14 | replace L := L.trans s14)
      try (first | replace hx0 := s14 _ _ hx0 | replace hx0 := hx0.same s14 | replace hx0 := hx0.then s14 | replace hx0 := hx0.trans s14)
      try (first | replace hn3 := s14 _ _ hn3 | replace hn3 := hn3.same s14 | replace hn3 := hn3.then s14 | replace hn3 := hn3.trans s14)
      walk_at "rd"
      refine ⟨least, rfl, true, rfl, ?_⟩
      rw [if_pos rfl]
      exact ⟨_, hp, _, hk, eF, eF, by rw [decide_eq_true rfl]; exact q H14 s1⟩
    refine ifI fun A B ka kb => ?_
    walk_at "rd"
    refine ⟨_, hta, ite_i (fun h6 => ka _ ?_) (fun h6 => kb _ ?_)⟩
    · clear ka kb
      walk_at "rd"
      refine ⟨qt, m, words zs, D, rfl, tab, by omega, fun qe es H12 s12 ne he lz hes => ?_⟩
      refine ⟨_, rfl, _, s12 _ _ hc, _, he, ?_, fun qf nf => ?_⟩
      · rw [List.length_map, List.length_map]
        exact sz (by omega)
      have eb : bs.map V.ref ++ es.map V.ref = (bs ++ es).map V.ref := List.map_append.symm
      rw [eb]
      have tf := same_new (o := .lst ((bs ++ es).map V.ref)) nf
      refine rest qf (bs ++ es) _ (s12.trans tf) upd_same fun a h => ?_
      rcases List.mem_append.mp h with h | h
      · exact Csame hcs2 (s12.trans tf) a h
      · obtain ⟨l, hl1, sl, ml⟩ := hes a h
        exact ⟨l, tf _ _ hl1, (sorted_pw dD.1).sublist sl, dD.2.1.sublist sl, ml, fun w hw => swD w (sl.subset hw)⟩
    · clear ka kb
      walk_at "rd"
      refine ⟨qt, m, words zs, D, rfl, tab, lD, lW, lDw, hm, fun qe L' ws' H12 s12 ne pL oL pW so he => ?_⟩
      have ew : ws' = ys := by
        obtain ⟨L2, hL2, oL2, eP⟩ := bP.ex
        rw [filter_take m oL2] at eP
        have e1 : L' = L2.filter fun w => decide (costV (words zs) w < 0) := (pL.trans (hL2.symm.filter _)).eq_of_pairwise (fun a b _ _ h1 h2 => leK_anti h1 h2) oL (oL2.filter _)
        rw [← e1] at eP
        exact pw_uniq (sorted_pw so) (sorted_pw okL.so) (pW.trans (by rw [← eP]; exact pP.symm))
      rw [ew] at he
      refine ⟨qe, rfl, _, s12 _ _ hn3, _, he, fW, fW, ?_⟩
      rw [if_pos rfl]
      exact rest qc bs H12 s12 (s12 _ _ hc) (Csame hcs2 s12)
end
section
variable {P : Program} {w : World} {K : PySem.W.Frag} {mg : Str → Option Value} {base : Heap}
theorem ok_law {f0 : Addr} {fd : FuncData} (F : FunD K "law" "law" (defArgs s_law) (defBody s_law) (defScope s_law) [] [] f0 fd) (T : Tx P K mg) (C__law_bag : Cal P w K mg base CX0 1 "_law_bag" ["_law_script"] (spBag K)) (C__law_pool : Cal P w K mg base CX0 3 "_law_pool" ["_law_bag_here"] spPoolB) (C__law_rows : Cal P w K mg base CX0 2 "_law_rows" ["_law_bag_here", "_law_pool_here"] spRowsB) (C__law_pick : Cal P w K mg base CX0 1 "_law_pick" ["_law_bag_here", "_law_many"] spPick) (C__law_word : Cal P w K mg base CX0 2 "_law_word" ["_law_bag_here"] spWordB) (C__law_distinct : Cal P w K mg base CX0 1 "_law_distinct" ["_law_words"] spDist) (C__law_best : Cal P w K mg base CX0 8 "_law_best" ["_law_rows_here", "_law_limit", "_law_way", "_law_rival"] (spLBest K))  : FnOk P w K mg base CX0 9 f0 fd ["_law_script"] (spLaw K) := by
  refine law0 F sc_law (fun vs H Q E h => ?_) (fun f cdv A outer s H vs Q E hr h => ?_)
  · first | (obtain ⟨rfl, _⟩ := h; rfl) | (obtain ⟨_, rfl, _⟩ := h; rfl) | (obtain ⟨_, _, rfl, _⟩ := h; rfl) | (obtain ⟨_, _, _, rfl, _⟩ := h; rfl) | (obtain ⟨_, _, _, _, rfl, _⟩ := h; rfl) | (obtain ⟨_, _, _, _, _, rfl, _⟩ := h; rfl) | (obtain ⟨_, _, _, _, _, _, rfl, _⟩ := h; rfl) | (obtain ⟨_, _, _, _, _, _, _, rfl, _⟩ := h; rfl) | (obtain ⟨_, _, _, _, _, _, _, _, rfl, _⟩ := h; rfl) | (obtain ⟨_, _, _, _, _, _, _, _, _, rfl, _⟩ := h; rfl)
  · skip
    refine ⟨_, (pss_cons (ps_set (i := 1) sc_law.nd rfl (Or.inr rfl) (Fx.pe_cal C__law_bag (hr.mono (by decide)) pass0 (Fx.pa_c (pv 0) pa_nil)))
        (pss_cons (ps_set (i := 2) sc_law.nd rfl (Or.inl rfl) (Fx.pe_cal C__law_pool (hr.mono (by decide)) pass0 (Fx.pa_c (pv 1) pa_nil)))
        (pss_cons (ps_set (i := 3) sc_law.nd rfl (Or.inl rfl) (Fx.pe_cal C__law_rows (hr.mono (by decide)) pass0 (Fx.pa_c (pv 1) (Fx.pa_c (pv 2) pa_nil))))
        (pss_cons (ps_set (i := 4) sc_law.nd rfl (Or.inl rfl) (Fx.pe_cal C__law_pick (hr.mono (by decide)) pass0 (Fx.pa_c (pv 1) (Fx.pa_c pe_int pa_nil))))
        (pss_cons (ps_set (i := 5) sc_law.nd rfl (Or.inl rfl) (pe_ix Fx.ix_L (pe_lst (Fx.pa_c (Fx.pe_cal C__law_pick (hr.mono (by decide)) pass0 (Fx.pa_c (pv 1) (Fx.pa_c pe_int pa_nil))) (Fx.pa_c (Fx.pe_cal C__law_pick (hr.mono (by decide)) pass0 (Fx.pa_c (pv 1) (Fx.pa_c pe_int pa_nil))) (Fx.pa_c pe_int pa_nil)))) (pv 4) (fun _ _ => rfl)))
        (pss_cons (ps_set (i := 6) sc_law.nd rfl (Or.inr rfl) (pe_lc (own := [("_law_word_here", 8)]) rfl sc_law.nd (pi_list (pv 2)) (blkOk_by (N := N_law) (sc := defScope s_law) (by decide +kernel)) (fun _ _ _ _ _ => (pg_name (i := 8) sc_law.nd rfl (Or.inl rfl))) (fun _ _ _ _ _ => (pts_one (pt_chain op_le op_le pe_int (Fx.pe_cB Fx.len_S T.b_len (by decide +kernel) (Fx.pa_c (pv 8) pa_nil)) pe_int))) (fun _ _ _ _ _ => (pv 8))))
        (pss_cons (ps_setLc (i := 7) (own := [("_law_step", 9)]) rfl sc_law.nd rfl rfl (sw_true rfl rfl rfl (by decide +kernel)) (pi_range1 rfl T.b_range (Fx.pa_c (Fx.pe_cal C__law_pick (hr.mono (by decide)) pass0 (Fx.pa_c (pv 1) (Fx.pa_c pe_int pa_nil))) pa_nil)) (blkOk_by (N := N_law) (sc := defScope s_law) (by decide +kernel)) (fun _ _ _ _ _ => (pg_name (i := 9) sc_law.nd rfl (Or.inl rfl))) (fun _ _ _ _ _ => pts_nil) (fun _ _ _ _ _ => (pe_ix Fx.ix_L (pv 6) (Fx.pe_cal C__law_pick (hr.mono (by decide)) pass0 (Fx.pa_c (pv 1) (Fx.pa_c (Fx.pe_cB Fx.len_L T.b_len (by decide +kernel) (Fx.pa_c (pv 6) pa_nil)) pa_nil))) (fun _ _ => rfl))))
        (pss_cons (ps_set (i := 7) sc_law.nd rfl (Or.inl rfl) (Fx.pe_cal C__law_distinct (hr.mono (by decide)) pass0 (Fx.pa_c (pe_op op_cat (pv 7) (pe_lc (own := [("_law_step", 9)]) rfl sc_law.nd (pi_range1 rfl T.b_range (Fx.pa_c (Fx.pe_cal C__law_pick (hr.mono (by decide)) pass0 (Fx.pa_c (pv 1) (Fx.pa_c pe_int pa_nil))) pa_nil)) (blkOk_by (N := N_law) (sc := defScope s_law) (by decide +kernel)) (fun _ _ _ _ _ => (pg_name (i := 9) sc_law.nd rfl (Or.inl rfl))) (fun _ _ _ _ _ => pts_nil) (fun _ _ _ _ _ => (Fx.pe_cal C__law_word (hr.mono (by decide)) pass0 (Fx.pa_c (pv 1) pa_nil))))) pa_nil)))
        (pss_cons (ps_if (PW.pt (pw_or (pt_not (pt_val (Fx.pe_cal C__law_best (hr.mono (by decide)) pass0 (Fx.pa_c (pv 3) (Fx.pa_c (pv 5) (Fx.pa_c (pv 4) (Fx.pa_c (pv 7) pa_nil))))))) (pw_or1 (pt_not (pt_val (Fx.pe_cal C__law_best (hr.mono (by decide)) pass0 (Fx.pa_c (pe_lst pa_nil) (Fx.pa_c (pv 5) (Fx.pa_c pe_int (Fx.pa_c (pv 7) pa_nil)))))))))) (pss_one (ps_ret pe_bl)) pss_nil)
        (pss_cons (ps_expr (pe_bm PySem.F.plainAttrs_list PySem.F.slot_list_append PySem.F.type_list_append mt_append (pv 3) (Fx.pa_c (pe_op Fx.op_mul_str (pe_op op_add_str (pe_ix Fx.ix_L (pv 2) pe_int (fun _ _ => rfl)) pe_str) (pe_ix Fx.ix_L (pe_lst (Fx.pa_c pe_int (Fx.pa_c pe_int (Fx.pa_c pe_int pa_nil)))) (Fx.pe_cal C__law_pick (hr.mono (by decide)) pass0 (Fx.pa_c (pv 1) (Fx.pa_c pe_int pa_nil))) (fun _ _ => rfl))) pa_nil)))
        (pss_cons (ps_if (pt_not (pt_val (Fx.pe_cal C__law_best (hr.mono (by decide)) pass0 (Fx.pa_c (pv 3) (Fx.pa_c (pv 5) (Fx.pa_c (pv 4) (Fx.pa_c (pv 7) pa_nil))))))) (pss_one (ps_ret pe_bl)) pss_nil)
        (pss_cons (ps_expr (pe_bm PySem.F.plainAttrs_list PySem.F.slot_list_insert PySem.F.type_list_insert Fx.mt_ins (pv 3) (Fx.pa_c pe_int (Fx.pa_c (pe_ix Fx.ix_L (pv 3) pe_int (fun _ _ => rfl)) pa_nil))))
        (pss_cons (ps_if (pt_not (pt_val (Fx.pe_cal C__law_best (hr.mono (by decide)) pass0 (Fx.pa_c (pv 3) (Fx.pa_c (pv 5) (Fx.pa_c pe_int (Fx.pa_c (pv 7) pa_nil))))))) (pss_one (ps_ret pe_bl)) pss_nil)
        (pss_cons (ps_expr (pe_bm0 PySem.F.plainAttrs_list PySem.F.slot_list_pop PySem.F.type_list_pop mt_pop (pv 3)))
        (pss_one (ps_ret (Fx.pe_cal C__law_best (hr.mono (by decide)) pass0 (Fx.pa_c (pv 3) (Fx.pa_c (pv 5) (Fx.pa_c pe_int (Fx.pa_c (pv 7) pa_nil))))))))))))))))))))), ?_⟩
    obtain ⟨a, ns, rfl, hS, hlen, q⟩ := h
    refine seqI fun K1 k1 => ?_
    walk_at "rd"
    refine ⟨a, ns, rfl, hS, hlen, fun b H1 s1 n1 B1 => k1 _ _ ?_⟩
    clear k1 s1 n1
    refine seqI fun K1 k1 => ?_
    walk_at "rd"
    refine ⟨b, rfl, B1, fun pp po H2 kp2 np hpo lo1 lo2 hpw hsw => k1 _ _ ?_⟩
    clear k1
    replace B1 := Kp.bag kp2
    have kpA := Kp.refl B1
    refine seqI fun K1 k1 => ?_
    walk_at "rd"
    refine ⟨b, pp, po, rfl, B1, hpo, lo1, lo2, hpw, fun pz zs H3 kp3 nz hz gz lz1 lz2 => k1 _ _ ?_⟩
    clear k1
    have nz0 := nz
    have B2 := B1
    have npz : pp ≠ pz := fun e => by rw [← e, hpo] at nz; cases nz
    try (first | replace hpo := Kp.lst kp3 B1 hpo | replace hpo := Kp.tup kp3 B1 hpo | replace hpo := Kp.ins kp3 B1 hpo | replace hpo := hpo.kp B1 kp3 | replace hpo := Kp.trans hpo kp3)
    try (first | replace kpA := Kp.lst kp3 B1 kpA | replace kpA := Kp.tup kp3 B1 kpA | replace kpA := Kp.ins kp3 B1 kpA | replace kpA := kpA.kp B1 kp3 | replace kpA := Kp.trans kpA kp3)
    replace B1 := Kp.bag kp3
    refine seqI fun K1 k1 => ?_
    walk_at "rd"
    refine ⟨b, 3, rfl, B1, by decide, by decide, fun way H4 w0 w3 kp4 => k1 _ _ ?_⟩
    clear k1
    try (first | replace hpo := Kp.lst kp4 B1 hpo | replace hpo := Kp.tup kp4 B1 hpo | replace hpo := Kp.ins kp4 B1 hpo | replace hpo := hpo.kp B1 kp4 | replace hpo := Kp.trans hpo kp4)
    try (first | replace kpA := Kp.lst kp4 B1 kpA | replace kpA := Kp.tup kp4 B1 kpA | replace kpA := Kp.ins kp4 B1 kpA | replace kpA := kpA.kp B1 kp4 | replace kpA := Kp.trans kpA kp4)
    try (first | replace hz := Kp.lst kp4 B1 hz | replace hz := Kp.tup kp4 B1 hz | replace hz := Kp.ins kp4 B1 hz | replace hz := hz.kp B1 kp4 | replace hz := Kp.trans hz kp4)
    replace B1 := Kp.bag kp4
    refine seqI fun K1 k1 => ?_
    walk_at "rd"
    refine ⟨b, 4, rfl, B1, by decide, by decide, fun x H5 x0 x4 kp5 => ?_⟩
    try (first | replace hpo := Kp.lst kp5 B1 hpo | replace hpo := Kp.tup kp5 B1 hpo | replace hpo := Kp.ins kp5 B1 hpo | replace hpo := hpo.kp B1 kp5 | replace hpo := Kp.trans hpo kp5)
    try (first | replace kpA := Kp.lst kp5 B1 kpA | replace kpA := Kp.tup kp5 B1 kpA | replace kpA := Kp.ins kp5 B1 kpA | replace kpA := kpA.kp B1 kp5 | replace kpA := Kp.trans kpA kp5)
    try (first | replace hz := Kp.lst kp5 B1 hz | replace hz := Kp.tup kp5 B1 hz | replace hz := Kp.ins kp5 B1 hz | replace hz := hz.kp B1 kp5 | replace hz := Kp.trans hz kp5)
    replace B1 := Kp.bag kp5
    refine ⟨b, 17, rfl, B1, by decide, by decide, fun y H6 y0 y17 kp6 => ⟨by decide, ?_⟩⟩
    try (first | replace hpo := Kp.lst kp6 B1 hpo | replace hpo := Kp.tup kp6 B1 hpo | replace hpo := Kp.ins kp6 B1 hpo | replace hpo := hpo.kp B1 kp6 | replace hpo := Kp.trans hpo kp6)
    try (first | replace kpA := Kp.lst kp6 B1 kpA | replace kpA := Kp.tup kp6 B1 kpA | replace kpA := Kp.ins kp6 B1 kpA | replace kpA := kpA.kp B1 kp6 | replace kpA := Kp.trans kpA kp6)
    try (first | replace hz := Kp.lst kp6 B1 hz | replace hz := Kp.tup kp6 B1 hz | replace hz := Kp.ins kp6 B1 hz | replace hz := hz.kp B1 kp6 | replace hz := Kp.trans hz kp6)
    replace B1 := Kp.bag kp6
    intro u1 n1
    generalize e_u1 : upd H6 u1 _ = H7
    have s7 := new_s n1 e_u1
    have g7 := new_h e_u1
    clear e_u1
    try (first | replace B1 := s7 _ _ B1 | replace B1 := B1.same s7 | replace B1 := B1.then s7 | replace B1 := B1.trans s7)
    try (first | replace hpo := s7 _ _ hpo | replace hpo := hpo.same s7 | replace hpo := hpo.then s7 | replace hpo := hpo.trans s7)
    try (first | replace kpA := s7 _ _ kpA | replace kpA := kpA.same s7 | replace kpA := kpA.then s7 | replace kpA := kpA.trans s7)
    try (first | replace hz := s7 _ _ hz | replace hz := hz.same s7 | replace hz := hz.then s7 | replace hz := hz.trans s7)
    obtain ⟨lim, el, l0, l16, lw⟩ : ∃ d : Int, atI [V.int x, V.int y, V.int 16] way = some (.int d) ∧ 0 ≤ d ∧ d ≤ 16 ∧ (way ≠ 0 → way ≠ 1 → d = 16) := by
      rcases (by omega : way = 0 ∨ way = 1 ∨ way = 2) with rfl | rfl | rfl
      · exact ⟨x, rfl, x0, by omega, fun h => absurd rfl h⟩
      · exact ⟨y, rfl, y0, by omega, fun _ h => absurd rfl h⟩
      · exact ⟨16, rfl, by decide, by decide, fun _ _ => rfl⟩
    refine ⟨_, el, k1 _ _ ?_⟩
    clear k1 el g7
    obtain ⟨ln, rfl⟩ : ∃ n : Nat, lim = (n : Int) := ⟨lim.toNat, by omega⟩
    obtain ⟨wn, rfl⟩ : ∃ n : Nat, way = (n : Int) := ⟨way.toNat, by omega⟩
    refine seqI fun K1 k1 => ?_
    walk_at "rd"
    refine ⟨_, rfl, pp, rfl, ⟨_, .inl (.inl hpo)⟩, fun D1 nD1 => ?_⟩
    have swp : ∀ w ∈ po, isSW w = (decide (3 ≤ w.length) && decide (w.length ≤ 20)) := fun w hw => by
      unfold isSW
      rw [List.all_eq_true.mpr fun c hc => decide_eq_true ((hpw w hw).2.2 c hc), Bool.and_true]
    refine lcL (xs := ms po) (fun i => if isSW (po.getD i "") = true then [V.str (po.getD i "")] else []) nD1 hpo ?_ ?_
    · intro i y H8 hy h8
      obtain ⟨w, rfl, hw, eg, hi, _⟩ := ms_get hy
      have hl := (hpw w hw).2.1
      have sw := swp w hw
      refine ⟨rfl, ?_⟩
      walk_at "rd"
      refine ⟨sz (by omega), ite_i (fun g1 => ite_i (fun g2 => ?_) (fun g2 => ?_)) (fun g1 => ?_)⟩
      · exact h8.put nD1 (fun i => if_len1) (by omega) (Same.refl _) (by rw [eg, sw, decide_eq_true (by omega : 3 ≤ w.length), decide_eq_true (by omega : w.length ≤ 20)]; rfl)
      · exact h8.skip (Same.refl _) (by rw [eg, sw, decide_eq_false (by omega : ¬ w.length ≤ 20), Bool.and_false]; rfl)
      · exact h8.skip (Same.refl _) (by rw [eg, sw, decide_eq_false (by omega : ¬ 3 ≤ w.length), Bool.false_and]; rfl)
    intro H8 s8 h8
    rw [flat_filter] at h8
    obtain ⟨w0, hw0, sw0⟩ := hsw
    have hgood : ∀ w ∈ po.filter isSW, isSW w = true := fun w hw => (List.mem_filter.mp hw).2
    have lgood : 1 ≤ (po.filter isSW).length ∧ (po.filter isSW).length ≤ 30 := by
      refine ⟨List.length_pos_of_mem (List.mem_filter.mpr ⟨hw0, sw0⟩), Nat.le_trans (List.length_filter_le _ _) lo2⟩
    generalize po.filter isSW = gd at h8 hgood lgood
    refine k1 _ _ ?_
    clear k1
    try (first | replace B1 := s8 _ _ B1 | replace B1 := B1.same s8 | replace B1 := B1.then s8 | replace B1 := B1.trans s8)
    try (first | replace hpo := s8 _ _ hpo | replace hpo := hpo.same s8 | replace hpo := hpo.then s8 | replace hpo := hpo.trans s8)
    try (first | replace kpA := s8 _ _ kpA | replace kpA := kpA.same s8 | replace kpA := kpA.then s8 | replace kpA := kpA.trans s8)
    try (first | replace hz := s8 _ _ hz | replace hz := hz.same s8 | replace hz := hz.then s8 | replace hz := hz.trans s8)
    refine seqI fun K1 k1 => ?_
    refine ⟨_, rfl, b, 5, rfl, B1, by decide, by decide, fun m H9 m0 m5 kp9 => ?_⟩
    try (first | replace hpo := Kp.lst kp9 B1 hpo | replace hpo := Kp.tup kp9 B1 hpo | replace hpo := Kp.ins kp9 B1 hpo | replace hpo := hpo.kp B1 kp9 | replace hpo := Kp.trans hpo kp9)
    try (first | replace kpA := Kp.lst kp9 B1 kpA | replace kpA := Kp.tup kp9 B1 kpA | replace kpA := Kp.ins kp9 B1 kpA | replace kpA := kpA.kp B1 kp9 | replace kpA := Kp.trans kpA kp9)
    try (first | replace hz := Kp.lst kp9 B1 hz | replace hz := Kp.tup kp9 B1 hz | replace hz := Kp.ins kp9 B1 hz | replace hz := hz.kp B1 kp9 | replace hz := Kp.trans hz kp9)
    try (first | replace h8 := Kp.lst kp9 B1 h8 | replace h8 := Kp.tup kp9 B1 h8 | replace h8 := Kp.ins kp9 B1 h8 | replace h8 := h8.kp B1 kp9 | replace h8 := Kp.trans h8 kp9)
    replace B1 := Kp.bag kp9
    refine ⟨m, rfl, by omega, by omega, fun D2 nD2 => ?_⟩
    have B9 := B1
    have h89 := h8
    refine lc_range (lo := 0) (n := m.toNat) (fun i H => ∃ zs : List Str, zs.length = i ∧ (∀ z ∈ zs, isSW z = true) ∧ H D2 = some (.lst (ms zs)) ∧ Kp b H9 H) ⟨[], rfl, fun c h => (by cases h), upd_same, Kp.put B9 (Kp.refl B9) nD2⟩ ?_ ?_
    · rintro i H10 hi ⟨zs, hl, hz, hD, kp10⟩
      refine ⟨rfl, ?_⟩
      walk_at "rd"
      refine ⟨_, kp10.lst B9 h89, b, _, rfl, kp10.bag, by rw [List.length_map]; omega, by rw [List.length_map]; omega, fun y H11 y0 y1 kp11 => ?_⟩
      rw [List.length_map] at y1
      obtain ⟨yn, rfl⟩ : ∃ n : Nat, y = (n : Int) := ⟨y.toNat, by omega⟩
      have hy : yn < gd.length := by omega
      refine ⟨_, rfl, _, kp11.lst kp10.bag (kp10.lst B9 h89), _, atI_get (xs := ms gd) (i := yn) (by rw [List.getElem?_map, List.getElem?_eq_getElem hy]; rfl), _, kp11.lst kp10.bag hD, ?_, zs ++ [gd[yn]], ?_, ?_, ?_, Kp.put B9 (kp10.trans kp11) nD2⟩
      · rw [List.length_map]
        exact Nat.lt_of_lt_of_le (by omega : _ < 100) (by decide)
      · rw [List.length_append, hl]
        rfl
      · intro z h
        rcases List.mem_append.mp h with h | h
        · exact hz z h
        · rw [List.mem_singleton.mp h]
          exact hgood _ (List.getElem_mem hy)
      · rw [ms, ms, List.map_append]
        rfl
    rintro H10 ⟨r1, lr1, hr1, hD2, kp10⟩
    try (first | replace hpo := Kp.lst kp10 B1 hpo | replace hpo := Kp.tup kp10 B1 hpo | replace hpo := Kp.ins kp10 B1 hpo | replace hpo := hpo.kp B1 kp10 | replace hpo := Kp.trans hpo kp10)
    try (first | replace kpA := Kp.lst kp10 B1 kpA | replace kpA := Kp.tup kp10 B1 kpA | replace kpA := Kp.ins kp10 B1 kpA | replace kpA := kpA.kp B1 kp10 | replace kpA := Kp.trans kpA kp10)
    try (first | replace hz := Kp.lst kp10 B1 hz | replace hz := Kp.tup kp10 B1 hz | replace hz := Kp.ins kp10 B1 hz | replace hz := hz.kp B1 kp10 | replace hz := Kp.trans hz kp10)
    try (first | replace h8 := Kp.lst kp10 B1 h8 | replace h8 := Kp.tup kp10 B1 h8 | replace h8 := Kp.ins kp10 B1 h8 | replace h8 := h8.kp B1 kp10 | replace h8 := Kp.trans h8 kp10)
    replace B1 := Kp.bag kp10
    refine k1 _ _ ?_
    clear k1
    refine seqI fun K1 k1 => ?_
    walk_at "rd"
    refine ⟨_, rfl, b, 3, rfl, B1, by decide, by decide, fun m2 H11 m0 m3 kp11 => ?_⟩
    try (first | replace hpo := Kp.lst kp11 B1 hpo | replace hpo := Kp.tup kp11 B1 hpo | replace hpo := Kp.ins kp11 B1 hpo | replace hpo := hpo.kp B1 kp11 | replace hpo := Kp.trans hpo kp11)
    try (first | replace kpA := Kp.lst kp11 B1 kpA | replace kpA := Kp.tup kp11 B1 kpA | replace kpA := Kp.ins kp11 B1 kpA | replace kpA := kpA.kp B1 kp11 | replace kpA := Kp.trans kpA kp11)
    try (first | replace hz := Kp.lst kp11 B1 hz | replace hz := Kp.tup kp11 B1 hz | replace hz := Kp.ins kp11 B1 hz | replace hz := hz.kp B1 kp11 | replace hz := Kp.trans hz kp11)
    try (first | replace hD2 := Kp.lst kp11 B1 hD2 | replace hD2 := Kp.tup kp11 B1 hD2 | replace hD2 := Kp.ins kp11 B1 hD2 | replace hD2 := hD2.kp B1 kp11 | replace hD2 := Kp.trans hD2 kp11)
    replace B1 := Kp.bag kp11
    refine ⟨m2, rfl, by omega, by omega, fun D3 nD3 => ?_⟩
    have B11 := B1
    refine lc_range (lo := 0) (n := m2.toNat) (fun i H => ∃ zs : List Str, zs.length = i ∧ (∀ z ∈ zs, isSW z = true) ∧ H D3 = some (.lst (ms zs)) ∧ Kp b H11 H) ⟨[], rfl, fun c h => (by cases h), upd_same, Kp.put B11 (Kp.refl B11) nD3⟩ ?_ ?_
    · rintro i H12 hi ⟨zs, hl, hz, hD, kp12⟩
      refine ⟨rfl, ?_⟩
      walk_at "rd"
      refine ⟨b, rfl, kp12.bag, fun z H13 z1 kp13 => ⟨_, kp13.lst kp12.bag hD, ?_, zs ++ [z], ?_, ?_, ?_, Kp.put B11 (kp12.trans kp13) nD3⟩⟩
      · rw [List.length_map]
        exact Nat.lt_of_lt_of_le (by omega : _ < 100) (by decide)
      · rw [List.length_append, hl]
        rfl
      · intro y h
        rcases List.mem_append.mp h with h | h
        · exact hz y h
        · rw [List.mem_singleton.mp h]
          exact z1
      · rw [ms, ms, List.map_append]
        rfl
    rintro H12 ⟨r2, lr2, hr2, hD3, kp12⟩
    try (first | replace hpo := Kp.lst kp12 B1 hpo | replace hpo := Kp.tup kp12 B1 hpo | replace hpo := Kp.ins kp12 B1 hpo | replace hpo := hpo.kp B1 kp12 | replace hpo := Kp.trans hpo kp12)
    try (first | replace kpA := Kp.lst kp12 B1 kpA | replace kpA := Kp.tup kp12 B1 kpA | replace kpA := Kp.ins kp12 B1 kpA | replace kpA := kpA.kp B1 kp12 | replace kpA := Kp.trans kpA kp12)
    try (first | replace hz := Kp.lst kp12 B1 hz | replace hz := Kp.tup kp12 B1 hz | replace hz := Kp.ins kp12 B1 hz | replace hz := hz.kp B1 kp12 | replace hz := Kp.trans hz kp12)
    try (first | replace hD2 := Kp.lst kp12 B1 hD2 | replace hD2 := Kp.tup kp12 B1 hD2 | replace hD2 := Kp.ins kp12 B1 hD2 | replace hD2 := hD2.kp B1 kp12 | replace hD2 := Kp.trans hD2 kp12)
    replace B1 := Kp.bag kp12
    refine ⟨_, rfl, _, hD2, _, hD3, ?_, ?_⟩
    · rw [List.length_map, List.length_map]
      exact sz (by omega)
    rw [show ms r1 ++ ms r2 = ms (r1 ++ r2) by rw [ms, ms, ms, List.map_append]]
    intro u5 n5
    generalize e_u5 : upd H12 u5 _ = H13
    have s13 := new_s n5 e_u5
    have g13 := new_h e_u5
    clear e_u5
    try (first | replace B1 := s13 _ _ B1 | replace B1 := B1.same s13 | replace B1 := B1.then s13 | replace B1 := B1.trans s13)
    try (first | replace hpo := s13 _ _ hpo | replace hpo := hpo.same s13 | replace hpo := hpo.then s13 | replace hpo := hpo.trans s13)
    try (first | replace kpA := s13 _ _ kpA | replace kpA := kpA.same s13 | replace kpA := kpA.then s13 | replace kpA := kpA.trans s13)
    try (first | replace hz := s13 _ _ hz | replace hz := hz.same s13 | replace hz := hz.then s13 | replace hz := hz.trans s13)
    try (first | replace hD2 := s13 _ _ hD2 | replace hD2 := hD2.same s13 | replace hD2 := hD2.then s13 | replace hD2 := hD2.trans s13)
    refine ⟨u5, r1 ++ r2, rfl, g13, by rw [List.length_append]; omega, fun qr rv H14 s14 dR nqr hqr => k1 _ _ ?_⟩
    clear k1
    have nqz : qr ≠ pz := fun e => by rw [e, hz] at nqr; cases nqr
    try (first | replace B1 := s14 _ _ B1 | replace B1 := B1.same s14 | replace B1 := B1.then s14 | replace B1 := B1.trans s14)
    try (first | replace hpo := s14 _ _ hpo | replace hpo := hpo.same s14 | replace hpo := hpo.then s14 | replace hpo := hpo.trans s14)
    try (first | replace kpA := s14 _ _ kpA | replace kpA := kpA.same s14 | replace kpA := kpA.then s14 | replace kpA := kpA.trans s14)
    try (first | replace hz := s14 _ _ hz | replace hz := hz.same s14 | replace hz := hz.then s14 | replace hz := hz.trans s14)
    try (first | replace hD2 := s14 _ _ hD2 | replace hD2 := hD2.same s14 | replace hD2 := hD2.then s14 | replace hD2 := hD2.trans s14)
    try (first | replace g13 := s14 _ _ g13 | replace g13 := g13.same s14 | replace g13 := g13.then s14 | replace g13 := g13.trans s14)
    have swr : ∀ z ∈ rv, isSW z = true := fun z hz => by
      have := (dR.2.2 z).mp hz
      rcases List.mem_append.mp this with h | h
      · exact hr1 z h
      · exact hr2 z h
    have lrv : rv.length ≤ 20 := by
      have := dist_len dR
      rw [List.length_append] at this
      omega
    have best : ∀ (H15 : Hp) (p1 : Addr) (zs1 : List Str) (w1 : Nat) (Q1 : VK), H15 p1 = some (.lst (ms zs1)) → H15 qr = some (.lst (ms rv)) → GoodT zs1 → zs1.length ≤ 300 → (w1 ≠ 0 → w1 ≠ 1 → ln = 16) → (∀ H16, Same H15 H16 → Q1 (.bl true) H16) → spLBest K [.ref p1, .int (ln : Nat), .int (w1 : Nat), .ref qr] H15 Q1 E0 := fun H15 p1 zs1 w1 Q1 a1 a2 a3 a4 a5 k => ⟨p1, qr, ln, w1, zs1, rv, rfl, a1, a3, a4, by omega, a5, a2, dR.1, dR.2.1, lrv, swr, k⟩
    refine seqI fun K1 k1 => ?_
    walk_at "rd"
    refine best H14 pz zs wn _ hz hqr gz (by omega) (fun a1 a2 => by have := lw (by omega) (by omega); omega) fun H15 s15 => ?_
    try (first | replace B1 := s15 _ _ B1 | replace B1 := B1.same s15 | replace B1 := B1.then s15 | replace B1 := B1.trans s15)
    try (first | replace hpo := s15 _ _ hpo | replace hpo := hpo.same s15 | replace hpo := hpo.then s15 | replace hpo := hpo.trans s15)
    try (first | replace kpA := s15 _ _ kpA | replace kpA := kpA.same s15 | replace kpA := kpA.then s15 | replace kpA := kpA.trans s15)
    try (first | replace hz := s15 _ _ hz | replace hz := hz.same s15 | replace hz := hz.then s15 | replace hz := hz.trans s15)
    try (first | replace hqr := s15 _ _ hqr | replace hqr := hqr.same s15 | replace hqr := hqr.then s15 | replace hqr := hqr.trans s15)
    walk_at "rd"
    refine ⟨by decide, ?_⟩
    intro u6 n6
    generalize e_u6 : upd H15 u6 _ = H16
    have s16 := new_s n6 e_u6
    have g16 := new_h e_u6
    clear e_u6
    try (first | replace B1 := s16 _ _ B1 | replace B1 := B1.same s16 | replace B1 := B1.then s16 | replace B1 := B1.trans s16)
    try (first | replace hpo := s16 _ _ hpo | replace hpo := hpo.same s16 | replace hpo := hpo.then s16 | replace hpo := hpo.trans s16)
    try (first | replace kpA := s16 _ _ kpA | replace kpA := kpA.same s16 | replace kpA := kpA.then s16 | replace kpA := kpA.trans s16)
    try (first | replace hz := s16 _ _ hz | replace hz := hz.same s16 | replace hz := hz.then s16 | replace hz := hz.trans s16)
    try (first | replace hqr := s16 _ _ hqr | replace hqr := hqr.same s16 | replace hqr := hqr.then s16 | replace hqr := hqr.trans s16)
    refine best H16 u6 [] 1 _ g16 hqr (fun z hz => by cases hz) (by decide) (fun _ h => absurd rfl h) fun H17 s17 => ?_
    try (first | replace B1 := s17 _ _ B1 | replace B1 := B1.same s17 | replace B1 := B1.then s17 | replace B1 := B1.trans s17)
    try (first | replace hpo := s17 _ _ hpo | replace hpo := hpo.same s17 | replace hpo := hpo.then s17 | replace hpo := hpo.trans s17)
    try (first | replace kpA := s17 _ _ kpA | replace kpA := kpA.same s17 | replace kpA := kpA.then s17 | replace kpA := kpA.trans s17)
    try (first | replace hz := s17 _ _ hz | replace hz := hz.same s17 | replace hz := hz.then s17 | replace hz := hz.trans s17)
    try (first | replace hqr := s17 _ _ hqr | replace hqr := hqr.same s17 | replace hqr := hqr.then s17 | replace hqr := hqr.trans s17)
    walk_at "rd"
    refine k1 _ _ ?_
    clear k1
    obtain ⟨y0, r0, rfl⟩ : ∃ y r, po = y :: r := by
      cases po with
      | nil => exact absurd lo1 (by decide)
      | cons y r => exact ⟨y, r, rfl⟩
    have ok0 := hpw y0 List.mem_cons_self
    have e1 : ((" " : Str)).length = 1 := rfl
    have l1 : (y0 ++ " ").length = y0.length + 1 := by rw [len_app, e1]
    refine seqI fun K1 k1 => ?_
    walk_at "rd"
    refine ⟨tyL hz, _, hpo, _, atI_get (i := 0) rfl, y0, rfl, sz (by rw [e1]; have := ok0.2.1; omega), by decide, ?_⟩
    intro u7 n7
    generalize e_u7 : upd H17 u7 _ = H18
    have s18 := new_s n7 e_u7
    have g18 := new_h e_u7
    clear e_u7
    try (first | replace B1 := s18 _ _ B1 | replace B1 := B1.same s18 | replace B1 := B1.then s18 | replace B1 := B1.trans s18)
    try (first | replace hpo := s18 _ _ hpo | replace hpo := hpo.same s18 | replace hpo := hpo.then s18 | replace hpo := hpo.trans s18)
    try (first | replace kpA := s18 _ _ kpA | replace kpA := kpA.same s18 | replace kpA := kpA.then s18 | replace kpA := kpA.trans s18)
    try (first | replace hz := s18 _ _ hz | replace hz := hz.same s18 | replace hz := hz.then s18 | replace hz := hz.trans s18)
    try (first | replace hqr := s18 _ _ hqr | replace hqr := hqr.same s18 | replace hqr := hqr.then s18 | replace hqr := hqr.trans s18)
    refine ⟨b, 3, rfl, B1, by decide, by decide, fun t H19 t0 t3 kp19 => ⟨_, rfl, ?_⟩⟩
    have hqr19 := kp19.lst B1 hqr
    try (first | replace hpo := Kp.lst kp19 B1 hpo | replace hpo := Kp.tup kp19 B1 hpo | replace hpo := Kp.ins kp19 B1 hpo | replace hpo := hpo.kp B1 kp19 | replace hpo := Kp.trans hpo kp19)
    try (first | replace kpA := Kp.lst kp19 B1 kpA | replace kpA := Kp.tup kp19 B1 kpA | replace kpA := Kp.ins kp19 B1 kpA | replace kpA := kpA.kp B1 kp19 | replace kpA := Kp.trans kpA kp19)
    try (first | replace hz := Kp.lst kp19 B1 hz | replace hz := Kp.tup kp19 B1 hz | replace hz := Kp.ins kp19 B1 hz | replace hz := hz.kp B1 kp19 | replace hz := Kp.trans hz kp19)
    try (first | replace hqr := Kp.lst kp19 B1 hqr | replace hqr := Kp.tup kp19 B1 hqr | replace hqr := Kp.ins kp19 B1 hqr | replace hqr := hqr.kp B1 kp19 | replace hqr := Kp.trans hqr kp19)
    try (first | replace g18 := Kp.lst kp19 B1 g18 | replace g18 := Kp.tup kp19 B1 g18 | replace g18 := Kp.ins kp19 B1 g18 | replace g18 := g18.kp B1 kp19 | replace g18 := Kp.trans g18 kp19)
    replace B1 := Kp.bag kp19
    obtain ⟨d, ed, d0, d6⟩ : ∃ d, atI [V.int 2, V.int 3, V.int 6] t = some (.int d) ∧ 0 ≤ d ∧ d ≤ 6 := by
      rcases (by omega : t = 0 ∨ t = 1 ∨ t = 2) with rfl | rfl | rfl <;> exact ⟨_, rfl, by decide, by decide⟩
    have lm : (Txt.mul (y0 ++ " ") d).length = d.toNat * (y0.length + 1) := by rw [mul_len _ d0, l1]
    have lm2 : d.toNat * (y0.length + 1) ≤ 6 * 23 := Nat.mul_le_mul (by omega) (by have := ok0.2.1; omega)
    have jm : judge (Txt.mul (y0 ++ " ") d) = none := by
      unfold judge
      rw [if_neg (by omega)]
      refine firstBad_none _ _ fun c hc => ?_
      have := mul_mem d0 hc
      rw [list_app, List.mem_append] at this
      rcases this with h | h
      · exact let1 c (ok0.2.2 c h)
      · rw [List.mem_singleton.mp h]
        decide +kernel
    refine ⟨_, g18, _, ed, d, rfl, d0, by omega, ?_, _, hz, ?_, k1 _ _ ?_⟩
    · rw [l1, Nat.mul_comm]
      omega
    · rw [List.length_map]
      exact Nat.lt_of_lt_of_le (by omega : _ < 1000) (by decide)
    clear k1 ed g18
    have em : ms zs ++ [V.str (Txt.mul (y0 ++ " ") d)] = ms (zs ++ [Txt.mul (y0 ++ " ") d]) := by rw [ms, ms, List.map_append]; rfl
    rw [em]
    generalize Txt.mul (y0 ++ " ") d = z1 at jm
    have put : ∀ (ys : List Str) (H20 : Hp), Kp b H2 H20 → H20 qr = some (.lst (ms rv)) → H20 pp = some (.lst (ms (y0 :: r0))) → ∃ H21, H21 = upd H20 pz (.lst (ms ys)) ∧ H21 pz = some (.lst (ms ys)) ∧ H21 qr = some (.lst (ms rv)) ∧ H21 pp = some (.lst (ms (y0 :: r0))) ∧ Kp b H2 H21 := fun ys H20 a1 a2 a3 => ⟨_, rfl, upd_same, by rw [upd_ne nqz]; exact a2, by rw [upd_ne npz]; exact a3, Kp.put B2 a1 nz0⟩
    obtain ⟨H21, e21, z21, q21, p21, k21⟩ := put (zs ++ [z1]) H19 kpA hqr hpo
    rw [← e21]
    have g1 : GoodT (zs ++ [z1]) := fun z h => by
      rcases List.mem_append.mp h with h | h
      · exact gz z h
      · rw [List.mem_singleton.mp h]
        exact jm
    have l1z : (zs ++ [z1]).length ≤ 291 := by
      rw [List.length_append]
      show _ + 1 ≤ _
      omega
    have lwn : wn ≠ 0 → wn ≠ 1 → ln = 16 := fun a1 a2 => by
      have := lw (by omega) (by omega)
      omega
    clear hqr hpo hz B1 kpA e21
    refine seqI fun K1 k1 => ?_
    walk_at "rd"
    refine best H21 pz (zs ++ [z1]) wn _ z21 q21 g1 (by omega) lwn fun H22 s22 => ?_
    walk_at "rd"
    refine k1 _ _ ?_
    clear k1
    replace z21 := s22 _ _ z21
    replace q21 := s22 _ _ q21
    replace p21 := s22 _ _ p21
    replace k21 := k21.then s22
    obtain ⟨z0, zr, ez⟩ : ∃ a r, zs ++ [z1] = a :: r := by
      cases zs with
      | nil => exact ⟨_, _, rfl⟩
      | cons a r => exact ⟨_, _, rfl⟩
    rw [ez] at z21 g1 l1z
    refine seqI fun K1 k1 => ?_
    walk_at "rd"
    refine ⟨tyL z21, _, z21, _, atI_get (i := 0) rfl, _, z21, ?_, by decide, by decide, k1 _ _ ?_⟩
    · rw [List.length_map]
      exact Nat.lt_of_lt_of_le (by omega : _ < 1000) (by decide)
    clear k1
    have ei : List.take (Int.toNat 0) (ms (z0 :: zr)) ++ [V.str z0] ++ List.drop (Int.toNat 0) (ms (z0 :: zr)) = ms (z0 :: z0 :: zr) := rfl
    rw [ei]
    obtain ⟨H23, e23, z23, q23, p23, k23⟩ := put (z0 :: z0 :: zr) H22 k21 q21 p21
    rw [← e23]
    have g2 : GoodT (z0 :: z0 :: zr) := fun z h => by
      rcases List.mem_cons.mp h with rfl | h
      · exact g1 z List.mem_cons_self
      · exact g1 z h
    have l2z : (z0 :: z0 :: zr).length ≤ 292 := by
      rw [List.length_cons]
      omega
    clear e23
    refine seqI fun K1 k1 => ?_
    walk_at "rd"
    refine best H23 pz _ 1 _ z23 q23 g2 (by omega) (fun _ h => absurd rfl h) fun H24 s24 => ?_
    walk_at "rd"
    refine k1 _ _ ?_
    clear k1
    replace z23 := s24 _ _ z23
    replace q23 := s24 _ _ q23
    replace p23 := s24 _ _ p23
    replace k23 := k23.then s24
    refine seqI fun K1 k1 => ?_
    walk_at "rd"
    refine ⟨tyL z23, pz, _, _, rfl, rfl, z23, List.getElem?_eq_getElem (by rw [List.length_map]; exact Nat.sub_lt (Nat.succ_pos _) Nat.one_pos), k1 _ _ ?_⟩
    clear k1
    have ed : (ms (z0 :: z0 :: zr)).dropLast = ms (z0 :: z0 :: zr).dropLast := (List.map_dropLast ..).symm
    rw [ed]
    have g3 : GoodT (z0 :: z0 :: zr).dropLast := fun z h => g2 z ((List.dropLast_sublist _).subset h)
    have l3z : (z0 :: z0 :: zr).dropLast.length ≤ 291 := by
      rw [List.length_dropLast]
      omega
    obtain ⟨H25, e25, z25, q25, p25, k25⟩ := put (z0 :: z0 :: zr).dropLast H24 k23 q23 p23
    rw [← e25]
    clear e25
    walk_at "rd"
    exact best H25 pz _ 0 _ z25 q25 g3 (by omega) (fun h => absurd rfl h) fun H26 s26 => q H26
end
def d_f_Lot_MU_initU : He.DefD := ⟨("Lot", some "__init__"), "__init__", "Lot.__init__", defArgs s_Lot_MU_initU, defBody s_Lot_MU_initU, defScope s_Lot_MU_initU, [.adr (He.dflAt ("Lot", some "__init__") 0)], []⟩
def d_f_Lot_MU_iterU : He.DefD := ⟨("Lot", some "__iter__"), "__iter__", "Lot.__iter__", defArgs s_Lot_MU_iterU, defBody s_Lot_MU_iterU, defScope s_Lot_MU_iterU, [], []⟩
def d_f_Lot_MU_lenU : He.DefD := ⟨("Lot", some "__len__"), "__len__", "Lot.__len__", defArgs s_Lot_MU_lenU, defBody s_Lot_MU_lenU, defScope s_Lot_MU_lenU, [], []⟩
def d_f_Lot_M_half_bytes : He.DefD := ⟨("Lot", some "half_bytes"), "half_bytes", "Lot.half_bytes", defArgs s_Lot_M_half_bytes, defBody s_Lot_M_half_bytes, defScope s_Lot_M_half_bytes, [], []⟩
def d_f_Lot_M_weight : He.DefD := ⟨("Lot", some "weight"), "weight", "Lot.weight", defArgs s_Lot_M_weight, defBody s_Lot_M_weight, defScope s_Lot_M_weight, [], []⟩
def d_f_check_text : He.DefD := ⟨("check_text", none), "check_text", "check_text", defArgs s_check_text, defBody s_check_text, defScope s_check_text, [], []⟩
def d_f_codes : He.DefD := ⟨("codes", none), "codes", "codes", defArgs s_codes, defBody s_codes, defScope s_codes, [], []⟩
def d_f_plain_codes : He.DefD := ⟨("plain_codes", none), "plain_codes", "plain_codes", defArgs s_plain_codes, defBody s_plain_codes, defScope s_plain_codes, [], []⟩
def d_f_word_cost : He.DefD := ⟨("word_cost", none), "word_cost", "word_cost", defArgs s_word_cost, defBody s_word_cost, defScope s_word_cost, [], []⟩
def d_f_pieces : He.DefD := ⟨("pieces", none), "pieces", "pieces", defArgs s_pieces, defBody s_pieces, defScope s_pieces, [], []⟩
def d_f_is_short_word : He.DefD := ⟨("is_short_word", none), "is_short_word", "is_short_word", defArgs s_is_short_word, defBody s_is_short_word, defScope s_is_short_word, [], []⟩
def d_f_check_texts : He.DefD := ⟨("check_texts", none), "check_texts", "check_texts", defArgs s_check_texts, defBody s_check_texts, defScope s_check_texts, [], []⟩
def d_f_counted : He.DefD := ⟨("counted", none), "counted", "counted", defArgs s_counted, defBody s_counted, defScope s_counted, [], []⟩
def d_f_total : He.DefD := ⟨("total", none), "total", "total", defArgs s_total, defBody s_total, defScope s_total, [], []⟩
def d_f_gain_of : He.DefD := ⟨("gain_of", none), "gain_of", "gain_of", defArgs s_gain_of, defBody s_gain_of, defScope s_gain_of, [], []⟩
def d_f_best_lot : He.DefD := ⟨("best_lot", none), "best_lot", "best_lot", defArgs s_best_lot, defBody s_best_lot, defScope s_best_lot, [.int 16], []⟩
def d_f__law_bag : He.DefD := ⟨("_law_bag", none), "_law_bag", "_law_bag", defArgs s__law_bag, defBody s__law_bag, defScope s__law_bag, [], []⟩
def d_f__law_pick : He.DefD := ⟨("_law_pick", none), "_law_pick", "_law_pick", defArgs s__law_pick, defBody s__law_pick, defScope s__law_pick, [], []⟩
def d_f__law_integer : He.DefD := ⟨("_law_integer", none), "_law_integer", "_law_integer", defArgs s__law_integer, defBody s__law_integer, defScope s__law_integer, [], []⟩
def d_f__law_codes : He.DefD := ⟨("_law_codes", none), "_law_codes", "_law_codes", defArgs s__law_codes, defBody s__law_codes, defScope s__law_codes, [], []⟩
def d_f__law_word : He.DefD := ⟨("_law_word", none), "_law_word", "_law_word", defArgs s__law_word, defBody s__law_word, defScope s__law_word, [], []⟩
def d_f__law_distinct : He.DefD := ⟨("_law_distinct", none), "_law_distinct", "_law_distinct", defArgs s__law_distinct, defBody s__law_distinct, defScope s__law_distinct, [], []⟩
def d_f__law_pieces : He.DefD := ⟨("_law_pieces", none), "_law_pieces", "_law_pieces", defArgs s__law_pieces, defBody s__law_pieces, defScope s__law_pieces, [], []⟩
def d_f__law_cost : He.DefD := ⟨("_law_cost", none), "_law_cost", "_law_cost", defArgs s__law_cost, defBody s__law_cost, defScope s__law_cost, [], []⟩
def d_f__law_pool : He.DefD := ⟨("_law_pool", none), "_law_pool", "_law_pool", defArgs s__law_pool, defBody s__law_pool, defScope s__law_pool, [], []⟩
def d_f__law_rows : He.DefD := ⟨("_law_rows", none), "_law_rows", "_law_rows", defArgs s__law_rows, defBody s__law_rows, defScope s__law_rows, [], []⟩
def d_f__law_runs : He.DefD := ⟨("_law_runs", none), "_law_runs", "_law_runs", defArgs s__law_runs, defBody s__law_runs, defScope s__law_runs, [], []⟩
def d_f__law_base : He.DefD := ⟨("_law_base", none), "_law_base", "_law_base", defArgs s__law_base, defBody s__law_base, defScope s__law_base, [], []⟩
def d_f__law_size : He.DefD := ⟨("_law_size", none), "_law_size", "_law_size", defArgs s__law_size, defBody s__law_size, defScope s__law_size, [], []⟩
def d_f__law_greatest : He.DefD := ⟨("_law_greatest", none), "_law_greatest", "_law_greatest", defArgs s__law_greatest, defBody s__law_greatest, defScope s__law_greatest, [], []⟩
def d_f__law_rivals : He.DefD := ⟨("_law_rivals", none), "_law_rivals", "_law_rivals", defArgs s__law_rivals, defBody s__law_rivals, defScope s__law_rivals, [], []⟩
def d_f__law_told : He.DefD := ⟨("_law_told", none), "_law_told", "_law_told", defArgs s__law_told, defBody s__law_told, defScope s__law_told, [], []⟩
def d_f__law_best : He.DefD := ⟨("_law_best", none), "_law_best", "_law_best", defArgs s__law_best, defBody s__law_best, defScope s__law_best, [], []⟩
def d_f_law : He.DefD := ⟨("law", none), "law", "law", defArgs s_law, defBody s_law, defScope s_law, [], []⟩
def fn : List He.DefD := [d_f_Lot_MU_initU, d_f_Lot_MU_iterU, d_f_Lot_MU_lenU, d_f_Lot_M_half_bytes, d_f_Lot_M_weight, d_f_check_text, d_f_codes, d_f_plain_codes, d_f_word_cost, d_f_pieces, d_f_is_short_word, d_f_check_texts, d_f_counted, d_f_total, d_f_gain_of, d_f_best_lot, d_f__law_bag, d_f__law_pick, d_f__law_integer, d_f__law_codes, d_f__law_word, d_f__law_distinct, d_f__law_pieces, d_f__law_cost, d_f__law_pool, d_f__law_rows, d_f__law_runs, d_f__law_base, d_f__law_size, d_f__law_greatest, d_f__law_rivals, d_f__law_told, d_f__law_best, d_f_law]
def d_BadLot : FxH.InD := ⟨"BadLot", "word", "BadLot.__init__", inClass (top 4) 0⟩
theorem bd_BadLot : ∀ (fd : FuncData) (p1 p2 : Pos), fd.params = xA d_BadLot.f p1 p2 → fd.defaults = .none → ∀ (u1 u2 : Value), bindArgs fd ⟨[u1, u2], []⟩ = pure [(("self" : Str), u1), (d_BadLot.f, u2)] := fun fd p1 p2 e1 e2 u1 u2 => by
  obtain ⟨n1, n2, n3, n4, n5, n6, n7, n8, n9, n10, n11, n12, n13, n14, n15⟩ := fd
  dsimp only at e1 e2
  subst e1 e2
  rfl
def d_BadText : FxH.InD := ⟨"BadText", "place", "BadText.__init__", inClass (top 3) 0⟩
theorem bd_BadText : ∀ (fd : FuncData) (p1 p2 : Pos), fd.params = xA d_BadText.f p1 p2 → fd.defaults = .none → ∀ (u1 u2 : Value), bindArgs fd ⟨[u1, u2], []⟩ = pure [(("self" : Str), u1), (d_BadText.f, u2)] := fun fd p1 p2 e1 e2 u1 u2 => by
  obtain ⟨n1, n2, n3, n4, n5, n6, n7, n8, n9, n10, n11, n12, n13, n14, n15⟩ := fd
  dsimp only at e1 e2
  subst e1 e2
  rfl
def d_TooMany : FxH.InD := ⟨"TooMany", "kind", "TooMany.__init__", inClass (top 5) 0⟩
theorem bd_TooMany : ∀ (fd : FuncData) (p1 p2 : Pos), fd.params = xA d_TooMany.f p1 p2 → fd.defaults = .none → ∀ (u1 u2 : Value), bindArgs fd ⟨[u1, u2], []⟩ = pure [(("self" : Str), u1), (d_TooMany.f, u2)] := fun fd p1 p2 e1 e2 u1 u2 => by
  obtain ⟨n1, n2, n3, n4, n5, n6, n7, n8, n9, n10, n11, n12, n13, n14, n15⟩ := fd
  dsimp only at e1 e2
  subst e1 e2
  rfl
def fi : List FxH.InD := [d_BadLot, d_BadText, d_TooMany]
def fa : List FxH.Fct := [(He.Fa.free "all").ok,
  (He.Fa.free "bool").ok,
  (He.Fa.free "enumerate").ok,
  (He.Fa.free "int").ok,
  (He.Fa.free "isinstance").ok,
  (He.Fa.free "iter").ok,
  (He.Fa.free "len").ok,
  (He.Fa.free "list").ok,
  (He.Fa.free "ord").ok,
  (He.Fa.free "range").ok,
  (He.Fa.free "sorted").ok,
  (He.Fa.free "str").ok,
  (He.Fa.free "sum").ok,
  (He.Fa.free "tuple").ok,
  (He.Fa.free "super").ok,
  (He.Fa.str "LETTERS" "abcdefghijklmnopqrstuvwxyz").ok,
  (He.Fa.int "LONGEST" 200).ok,
  (He.Fa.str "ROW1" " etaonisrhld").ok,
  (He.Fa.str "ROW2" "cumfpgwybvkxjqz.").ok,
  (He.Fa.str "ROW3" "0123456789\n,'-!?").ok,
  (He.Fa.str "SIGNS" " !\"#$\n&'()*+,-./0123456789:;<=>?@ABCDEFGHIJKLMNOPQRSTUVWXYZ[\\]^_`abcdefghijklmnopqrstuvwxyz{|}~").ok,
  (He.Fa.glo "BadLot").ok,
  (fun K => FxH.excB K "BadLot"),
  (He.Fa.glo "BadText").ok,
  (fun K => FxH.excB K "BadText"),
  (He.Fa.glo "Lot").ok,
  (He.Fa.glo "TooMany").ok,
  (fun K => FxH.excB K "TooMany"),
  (He.Fa.cls "Lot").ok,
  (He.Fa.noat "Lot" "words").ok,
  (fun K => insB K (He.ga K "Lot")),
  (fun K => tupI K (.ref (He.dflAt ("Lot", some "__init__") 0 K)) []),
  (He.Fa.mkr "Lot").ok,
  (He.Fa.meth "Lot" "__iter__").ok,
  (He.Fa.meth "Lot" "__len__").ok,
  (He.Fa.meth "Lot" "half_bytes").ok,
  (He.Fa.meth "Lot" "weight").ok,
  (He.Fa.glo "check_text").ok,
  (He.Fa.glo "codes").ok,
  (He.Fa.glo "plain_codes").ok,
  (He.Fa.glo "word_cost").ok,
  (He.Fa.glo "pieces").ok,
  (He.Fa.glo "is_short_word").ok,
  (He.Fa.glo "check_texts").ok,
  (He.Fa.glo "counted").ok,
  (He.Fa.glo "total").ok,
  (He.Fa.glo "gain_of").ok,
  (He.Fa.glo "best_lot").ok,
  (He.Fa.glo "_law_bag").ok,
  (He.Fa.glo "_law_pick").ok,
  (He.Fa.glo "_law_integer").ok,
  (He.Fa.glo "_law_codes").ok,
  (He.Fa.glo "_law_word").ok,
  (He.Fa.glo "_law_distinct").ok,
  (He.Fa.glo "_law_pieces").ok,
  (He.Fa.glo "_law_cost").ok,
  (He.Fa.glo "_law_pool").ok,
  (He.Fa.glo "_law_rows").ok,
  (He.Fa.glo "_law_runs").ok,
  (He.Fa.glo "_law_base").ok,
  (He.Fa.glo "_law_size").ok,
  (He.Fa.glo "_law_greatest").ok,
  (He.Fa.glo "_law_rivals").ok,
  (He.Fa.glo "_law_told").ok,
  (He.Fa.glo "_law_best").ok,
  (He.Fa.glo "law").ok]
abbrev R : PySem.W.OpenRow := PySem.W.OpenLaw.row PySem.Challenge.rw_fablemill_k13_whole_best_lot
def file : Str := PySem.Challenge.pw_fablemill_k13_whole_best_lot.main.file
abbrev hk : PySem.W.Hook := FxH.hookX 6 file fa fn fi
def ob (s : PySem.W.SharedT) : FxH.AlX := FxH.obsXG 6 file fa fn fi (HandSHeadRun.getT s)
theorem ob_eq (s : PySem.W.SharedT) : ob s = hk.obs s.abs := FxH.obsXG_eq (HandSHeadRun.getT_eq s)
def loose : List PySem.Str := (["_wall", "FableError", "BadText", "BadLot", "TooMany", "ROW1", "ROW2", "ROW3", "SIGNS", "LETTERS", "LONGEST", "check_text"] : List PySem.Str) ++ (["codes", "plain_codes", "word_cost", "pieces", "pairs_of", "is_short_word", "Lot", "check_texts", "counted", "total", "gain_of", "best_lot"] : List PySem.Str) ++ (["_law_bag", "_law_pick", "_law_integer", "_law_codes", "_law_word", "_law_distinct", "_law_pieces", "_law_cost", "_law_pool", "_law_rows", "_law_runs", "_law_base"] : List PySem.Str) ++ (["_law_size", "_law_greatest", "_law_rivals", "_law_told", "_law_best"] : List PySem.Str)
theorem run (w : World) : HandSHeadRun.RunEq R (PySem.W.view R.prog [45]) hk ob 20000 loose w := by
  intro os
  kernel_rfl
theorem facts {w : World} {K : PySem.W.Frag} {h : Heap} {mg : Str → Option Value} {f : Addr} (X : K.In h) (G : h.Ns mainGlobals mg) (hfa : mg ("law" : Str) = some (.ref f)) (c : FxH.SaysX file fa fn fi K) :
    ∃ fd : FuncData, (∀ (s : Shared) (v : Value), BindsTo s fd ⟨[v], []⟩ [("_law_script", v)]) ∧ ∀ base : Heap, K.In base → base.Ns mainGlobals mg → FnOk PySem.Challenge.pw_fablemill_k13_whole_best_lot w K mg base CX0 9 f fd ["_law_script"] (spLaw K) := by
  have T : Tx PySem.Challenge.pw_fablemill_k13_whole_best_lot K mg := {
    b_all := He.free_ok X G (c.fact 0),
    b_bool := He.free_ok X G (c.fact 1),
    b_enumerate := He.free_ok X G (c.fact 2),
    b_int := He.free_ok X G (c.fact 3),
    b_isinstance := He.free_ok X G (c.fact 4),
    b_iter := He.free_ok X G (c.fact 5),
    b_len := He.free_ok X G (c.fact 6),
    b_list := He.free_ok X G (c.fact 7),
    b_ord := He.free_ok X G (c.fact 8),
    b_range := He.free_ok X G (c.fact 9),
    b_sorted := He.free_ok X G (c.fact 10),
    b_str := He.free_ok X G (c.fact 11),
    b_sum := He.free_ok X G (c.fact 12),
    b_tuple := He.free_ok X G (c.fact 13),
    b_super := He.free_ok X G (c.fact 14),
    c_LETTERS := cst_str (He.str_ok X G (c.fact 15)),
    c_LONGEST := cst_int (He.int_ok X G (c.fact 16)),
    c_ROW1 := cst_str (He.str_ok X G (c.fact 17)),
    c_ROW2 := cst_str (He.str_ok X G (c.fact 18)),
    c_ROW3 := cst_str (He.str_ok X G (c.fact 19)),
    c_SIGNS := cst_str (He.str_ok X G (c.fact 20)),
    g_BadLot := He.glo_ok X G (c.fact 21),
    x_BadLot := FxH.InD.xc (P := PySem.Challenge.pw_fablemill_k13_whole_best_lot) (d := d_BadLot) (c.ini 0).1 (c.ini 0).2 (FOk.mk' (by decide +kernel) (by decide +kernel) (by decide +kernel) (by decide +kernel)) rfl rfl rfl rfl (bd_BadLot) (by decide +kernel),
    e_BadLot := FxH.excB_ok (c.fact 22),
    g_BadText := He.glo_ok X G (c.fact 23),
    x_BadText := FxH.InD.xc (P := PySem.Challenge.pw_fablemill_k13_whole_best_lot) (d := d_BadText) (c.ini 1).1 (c.ini 1).2 (FOk.mk' (by decide +kernel) (by decide +kernel) (by decide +kernel) (by decide +kernel)) rfl rfl rfl rfl (bd_BadText) (by decide +kernel),
    e_BadText := FxH.excB_ok (c.fact 24),
    g_Lot := He.glo_ok X G (c.fact 25),
    g_TooMany := He.glo_ok X G (c.fact 26),
    x_TooMany := FxH.InD.xc (P := PySem.Challenge.pw_fablemill_k13_whole_best_lot) (d := d_TooMany) (c.ini 2).1 (c.ini 2).2 (FOk.mk' (by decide +kernel) (by decide +kernel) (by decide +kernel) (by decide +kernel)) rfl rfl rfl rfl (bd_TooMany) (by decide +kernel),
    e_TooMany := FxH.excB_ok (c.fact 27),
    cl_Lot := He.cls_ok (c.fact 28),
    n_Lot_words := He.noat_ok (c.fact 29),
    i_Lot := c.fact 30,
    t_dfl := c.fact 31 }
  obtain ⟨fd0, F0⟩ := c.def_ 0 (d := d_f_Lot_MU_initU) rfl
  obtain ⟨fd1, F1⟩ := c.def_ 1 (d := d_f_Lot_MU_iterU) rfl
  obtain ⟨fd2, F2⟩ := c.def_ 2 (d := d_f_Lot_MU_lenU) rfl
  obtain ⟨fd3, F3⟩ := c.def_ 3 (d := d_f_Lot_M_half_bytes) rfl
  obtain ⟨fd4, F4⟩ := c.def_ 4 (d := d_f_Lot_M_weight) rfl
  obtain ⟨fd5, F5⟩ := c.def_ 5 (d := d_f_check_text) rfl
  have S_check_text : Src K mg "check_text" s_check_text := ⟨_, fd5, He.glo_ok X G (c.fact 37), F5⟩
  obtain ⟨fd6, F6⟩ := c.def_ 6 (d := d_f_codes) rfl
  have S_codes : Src K mg "codes" s_codes := ⟨_, fd6, He.glo_ok X G (c.fact 38), F6⟩
  obtain ⟨fd7, F7⟩ := c.def_ 7 (d := d_f_plain_codes) rfl
  have S_plain_codes : Src K mg "plain_codes" s_plain_codes := ⟨_, fd7, He.glo_ok X G (c.fact 39), F7⟩
  obtain ⟨fd8, F8⟩ := c.def_ 8 (d := d_f_word_cost) rfl
  have S_word_cost : Src K mg "word_cost" s_word_cost := ⟨_, fd8, He.glo_ok X G (c.fact 40), F8⟩
  obtain ⟨fd9, F9⟩ := c.def_ 9 (d := d_f_pieces) rfl
  have S_pieces : Src K mg "pieces" s_pieces := ⟨_, fd9, He.glo_ok X G (c.fact 41), F9⟩
  obtain ⟨fd10, F10⟩ := c.def_ 10 (d := d_f_is_short_word) rfl
  have S_is_short_word : Src K mg "is_short_word" s_is_short_word := ⟨_, fd10, He.glo_ok X G (c.fact 42), F10⟩
  obtain ⟨fd11, F11⟩ := c.def_ 11 (d := d_f_check_texts) rfl
  have S_check_texts : Src K mg "check_texts" s_check_texts := ⟨_, fd11, He.glo_ok X G (c.fact 43), F11⟩
  obtain ⟨fd12, F12⟩ := c.def_ 12 (d := d_f_counted) rfl
  have S_counted : Src K mg "counted" s_counted := ⟨_, fd12, He.glo_ok X G (c.fact 44), F12⟩
  obtain ⟨fd13, F13⟩ := c.def_ 13 (d := d_f_total) rfl
  have S_total : Src K mg "total" s_total := ⟨_, fd13, He.glo_ok X G (c.fact 45), F13⟩
  obtain ⟨fd14, F14⟩ := c.def_ 14 (d := d_f_gain_of) rfl
  have S_gain_of : Src K mg "gain_of" s_gain_of := ⟨_, fd14, He.glo_ok X G (c.fact 46), F14⟩
  obtain ⟨fd15, F15⟩ := c.def_ 15 (d := d_f_best_lot) rfl
  have S_best_lot : SrcD K mg "best_lot" s_best_lot (.int 16) := ⟨_, fd15, He.glo_ok X G (c.fact 47), F15⟩
  obtain ⟨fd16, F16⟩ := c.def_ 16 (d := d_f__law_bag) rfl
  have S__law_bag : Src K mg "_law_bag" s__law_bag := ⟨_, fd16, He.glo_ok X G (c.fact 48), F16⟩
  obtain ⟨fd17, F17⟩ := c.def_ 17 (d := d_f__law_pick) rfl
  have S__law_pick : Src K mg "_law_pick" s__law_pick := ⟨_, fd17, He.glo_ok X G (c.fact 49), F17⟩
  obtain ⟨fd18, F18⟩ := c.def_ 18 (d := d_f__law_integer) rfl
  have S__law_integer : Src K mg "_law_integer" s__law_integer := ⟨_, fd18, He.glo_ok X G (c.fact 50), F18⟩
  obtain ⟨fd19, F19⟩ := c.def_ 19 (d := d_f__law_codes) rfl
  have S__law_codes : Src K mg "_law_codes" s__law_codes := ⟨_, fd19, He.glo_ok X G (c.fact 51), F19⟩
  obtain ⟨fd20, F20⟩ := c.def_ 20 (d := d_f__law_word) rfl
  have S__law_word : Src K mg "_law_word" s__law_word := ⟨_, fd20, He.glo_ok X G (c.fact 52), F20⟩
  obtain ⟨fd21, F21⟩ := c.def_ 21 (d := d_f__law_distinct) rfl
  have S__law_distinct : Src K mg "_law_distinct" s__law_distinct := ⟨_, fd21, He.glo_ok X G (c.fact 53), F21⟩
  obtain ⟨fd22, F22⟩ := c.def_ 22 (d := d_f__law_pieces) rfl
  have S__law_pieces : Src K mg "_law_pieces" s__law_pieces := ⟨_, fd22, He.glo_ok X G (c.fact 54), F22⟩
  obtain ⟨fd23, F23⟩ := c.def_ 23 (d := d_f__law_cost) rfl
  have S__law_cost : Src K mg "_law_cost" s__law_cost := ⟨_, fd23, He.glo_ok X G (c.fact 55), F23⟩
  obtain ⟨fd24, F24⟩ := c.def_ 24 (d := d_f__law_pool) rfl
  have S__law_pool : Src K mg "_law_pool" s__law_pool := ⟨_, fd24, He.glo_ok X G (c.fact 56), F24⟩
  obtain ⟨fd25, F25⟩ := c.def_ 25 (d := d_f__law_rows) rfl
  have S__law_rows : Src K mg "_law_rows" s__law_rows := ⟨_, fd25, He.glo_ok X G (c.fact 57), F25⟩
  obtain ⟨fd26, F26⟩ := c.def_ 26 (d := d_f__law_runs) rfl
  have S__law_runs : Src K mg "_law_runs" s__law_runs := ⟨_, fd26, He.glo_ok X G (c.fact 58), F26⟩
  obtain ⟨fd27, F27⟩ := c.def_ 27 (d := d_f__law_base) rfl
  have S__law_base : Src K mg "_law_base" s__law_base := ⟨_, fd27, He.glo_ok X G (c.fact 59), F27⟩
  obtain ⟨fd28, F28⟩ := c.def_ 28 (d := d_f__law_size) rfl
  have S__law_size : Src K mg "_law_size" s__law_size := ⟨_, fd28, He.glo_ok X G (c.fact 60), F28⟩
  obtain ⟨fd29, F29⟩ := c.def_ 29 (d := d_f__law_greatest) rfl
  have S__law_greatest : Src K mg "_law_greatest" s__law_greatest := ⟨_, fd29, He.glo_ok X G (c.fact 61), F29⟩
  obtain ⟨fd30, F30⟩ := c.def_ 30 (d := d_f__law_rivals) rfl
  have S__law_rivals : Src K mg "_law_rivals" s__law_rivals := ⟨_, fd30, He.glo_ok X G (c.fact 62), F30⟩
  obtain ⟨fd31, F31⟩ := c.def_ 31 (d := d_f__law_told) rfl
  have S__law_told : Src K mg "_law_told" s__law_told := ⟨_, fd31, He.glo_ok X G (c.fact 63), F31⟩
  obtain ⟨fd32, F32⟩ := c.def_ 32 (d := d_f__law_best) rfl
  have S__law_best : Src K mg "_law_best" s__law_best := ⟨_, fd32, He.glo_ok X G (c.fact 64), F32⟩
  obtain ⟨fd, F⟩ := c.def_ 33 (d := d_f_law) rfl
  have e := hfa.symm.trans (He.glo_ok X G (c.fact 65 (f := (He.Fa.glo "law").ok) rfl))
  cases e
  have b := FunD.bindsA (ps := ["_law_script"]) F fun _ _ _ _ _ _ us hl => match us, hl with | [_], _ => rfl
  refine ⟨fd, fun s v => b s [v] rfl, fun base hK hG => ?_⟩
  have C_is_short_word : Cal PySem.Challenge.pw_fablemill_k13_whole_best_lot w K mg base CX0 1 "is_short_word" ["thing"] spShort := ok_is_short_word S_is_short_word T 
  have C_Lot_MU_initU : CalID PySem.Challenge.pw_fablemill_k13_whole_best_lot w K mg base (L2.CX PySem.Challenge.pw_fablemill_k13_whole_best_lot w) 3 (He.ga K "Lot") ["self", "words"] (.ref (He.dflAt ("Lot", some "__init__") 0 K)) (spLot K) := ok_Lot_MU_initU F0 (He.mkr_ok (c.fact 32)) T C_is_short_word
  have C_Lot_MU_iterU : CalM PySem.Challenge.pw_fablemill_k13_whole_best_lot w K mg base CX0 1 (He.ga K "Lot") "__iter__" ["self"] (spTIter K) := ok_Lot_MU_iterU F1 (He.meth_ok (c.fact 33)) T 
  have C_Lot_MU_lenU : CalM PySem.Challenge.pw_fablemill_k13_whole_best_lot w K mg base CX0 1 (He.ga K "Lot") "__len__" ["self"] (spTLen K) := ok_Lot_MU_lenU F2 (He.meth_ok (c.fact 34)) T 
  have C_pieces : Cal PySem.Challenge.pw_fablemill_k13_whole_best_lot w K mg base CX0 1 "pieces" ["text"] spPieces := ok_pieces S_pieces T 
  have C_codes : Cal PySem.Challenge.pw_fablemill_k13_whole_best_lot w K mg base CX0 1 "codes" ["sign"] spCodes := ok_codes S_codes T 
  have C_plain_codes : Cal PySem.Challenge.pw_fablemill_k13_whole_best_lot w K mg base CX0 2 "plain_codes" ["text"] spPlain := ok_plain_codes S_plain_codes T C_codes
  have C_Lot_M_half_bytes : CalM PySem.Challenge.pw_fablemill_k13_whole_best_lot w K mg base CX0 3 (He.ga K "Lot") "half_bytes" ["self", "text"] (spHalf K) := ok_Lot_M_half_bytes F3 (He.meth_ok (c.fact 35)) T C_pieces C_plain_codes
  have C_check_text : Cal PySem.Challenge.pw_fablemill_k13_whole_best_lot w K mg base (L2.CX PySem.Challenge.pw_fablemill_k13_whole_best_lot w) 3 "check_text" ["text"] (spCT K) := ok_check_text S_check_text T 
  have C_Lot_M_weight : CalM PySem.Challenge.pw_fablemill_k13_whole_best_lot w K mg base (L2.CX PySem.Challenge.pw_fablemill_k13_whole_best_lot w) 4 (He.ga K "Lot") "weight" ["self", "text"] (spWeight K) := ok_Lot_M_weight F4 (He.meth_ok (c.fact 36)) T C_check_text C_Lot_M_half_bytes
  have C_word_cost : Cal PySem.Challenge.pw_fablemill_k13_whole_best_lot w K mg base CX0 3 "word_cost" ["word"] spWCost := ok_word_cost S_word_cost T C_plain_codes
  have C_check_texts : Cal PySem.Challenge.pw_fablemill_k13_whole_best_lot w K mg base (L2.CX PySem.Challenge.pw_fablemill_k13_whole_best_lot w) 4 "check_texts" ["texts"] (spCTs K) := ok_check_texts S_check_texts T C_check_text
  have C_counted : Cal PySem.Challenge.pw_fablemill_k13_whole_best_lot w K mg base (L2.CX PySem.Challenge.pw_fablemill_k13_whole_best_lot w) 5 "counted" ["texts"] (spCounted K) := ok_counted S_counted T C_check_texts C_pieces C_is_short_word
  have C_Lot_MU_iterU_N : CalMN PySem.Challenge.pw_fablemill_k13_whole_best_lot w K mg base 1 (He.ga K "Lot") "__iter__" ["self"] (spTIterN K) := ok_Lot_MU_iterU_N F1 (He.meth_ok (c.fact 33)) T 
  have C_total : Cal PySem.Challenge.pw_fablemill_k13_whole_best_lot w K mg base (L2.CX PySem.Challenge.pw_fablemill_k13_whole_best_lot w) 5 "total" ["texts", "lot"] (spTotal K) := ok_total S_total T C_check_texts C_Lot_MU_initU C_Lot_M_weight C_Lot_MU_iterU C_Lot_MU_iterU_N
  have C_gain_of : Cal PySem.Challenge.pw_fablemill_k13_whole_best_lot w K mg base CX0 4 "gain_of" ["run", "many"] spGain := ok_gain_of S_gain_of T C_word_cost
  have C_best_lot : CalDK PySem.Challenge.pw_fablemill_k13_whole_best_lot w K mg base (L2.CX PySem.Challenge.pw_fablemill_k13_whole_best_lot w) 6 "best_lot" ["texts", "most"] (.int 16) "most" (spBestL K) := ok_best_lot S_best_lot T C_counted C_gain_of C_Lot_MU_initU
  have C__law_bag : Cal PySem.Challenge.pw_fablemill_k13_whole_best_lot w K mg base CX0 1 "_law_bag" ["_law_script"] (spBag K) := ok__law_bag S__law_bag T 
  have C__law_pick : Cal PySem.Challenge.pw_fablemill_k13_whole_best_lot w K mg base CX0 1 "_law_pick" ["_law_bag_here", "_law_many"] spPick := ok__law_pick S__law_pick T 
  have C__law_integer : Cal PySem.Challenge.pw_fablemill_k13_whole_best_lot w K mg base CX0 1 "_law_integer" ["_law_thing"] spInteger := ok__law_integer S__law_integer T 
  have C__law_codes : Cal PySem.Challenge.pw_fablemill_k13_whole_best_lot w K mg base CX0 1 "_law_codes" ["_law_sign"] spLCodes := ok__law_codes S__law_codes T 
  have C__law_word : Cal PySem.Challenge.pw_fablemill_k13_whole_best_lot w K mg base CX0 2 "_law_word" ["_law_bag_here"] spWordB := ok__law_word S__law_word T C__law_pick
  have C__law_distinct : Cal PySem.Challenge.pw_fablemill_k13_whole_best_lot w K mg base CX0 1 "_law_distinct" ["_law_words"] spDist := ok__law_distinct S__law_distinct T 
  have C__law_pieces : Cal PySem.Challenge.pw_fablemill_k13_whole_best_lot w K mg base CX0 1 "_law_pieces" ["_law_text"] spPieces := ok__law_pieces S__law_pieces T 
  have C__law_cost : Cal PySem.Challenge.pw_fablemill_k13_whole_best_lot w K mg base CX0 2 "_law_cost" ["_law_text"] spCost := ok__law_cost S__law_cost T C__law_codes
  have C__law_pool : Cal PySem.Challenge.pw_fablemill_k13_whole_best_lot w K mg base CX0 3 "_law_pool" ["_law_bag_here"] spPoolB := ok__law_pool S__law_pool T C__law_pick C__law_word
  have C__law_rows : Cal PySem.Challenge.pw_fablemill_k13_whole_best_lot w K mg base CX0 2 "_law_rows" ["_law_bag_here", "_law_pool_here"] spRowsB := ok__law_rows S__law_rows T C__law_pick
  have C__law_runs : Cal PySem.Challenge.pw_fablemill_k13_whole_best_lot w K mg base CX0 3 "_law_runs" ["_law_rows_here"] spRunsT := ok__law_runs S__law_runs T C__law_pieces C__law_distinct C__law_cost
  have C__law_base : Cal PySem.Challenge.pw_fablemill_k13_whole_best_lot w K mg base CX0 3 "_law_base" ["_law_rows_here", "_law_table"] spBaseT := ok__law_base S__law_base T C__law_pieces C__law_cost
  have C__law_size : Cal PySem.Challenge.pw_fablemill_k13_whole_best_lot w K mg base CX0 3 "_law_size" ["_law_table", "_law_base_here", "_law_names"] spSizeT := ok__law_size S__law_size T C__law_cost
  have C__law_greatest : Cal PySem.Challenge.pw_fablemill_k13_whole_best_lot w K mg base CX0 1 "_law_greatest" ["_law_table", "_law_limit"] spGreat := ok__law_greatest S__law_greatest T 
  have C__law_rivals : Cal PySem.Challenge.pw_fablemill_k13_whole_best_lot w K mg base CX0 1 "_law_rivals" ["_law_table", "_law_limit"] spRivals := ok__law_rivals S__law_rivals T 
  have C__law_told : Cal PySem.Challenge.pw_fablemill_k13_whole_best_lot w K mg base (L2.CX PySem.Challenge.pw_fablemill_k13_whole_best_lot w) 7 "_law_told" ["_law_rows_here", "_law_limit", "_law_way"] (spToldB K) := ok__law_told S__law_told T C_best_lot
  have C__law_best : Cal PySem.Challenge.pw_fablemill_k13_whole_best_lot w K mg base CX0 8 "_law_best" ["_law_rows_here", "_law_limit", "_law_way", "_law_rival"] (spLBest K) := ok__law_best S__law_best T C__law_told C_Lot_MU_iterU C_Lot_MU_lenU C__law_distinct C__law_runs C__law_base C__law_size C__law_rivals C__law_greatest C_total C__law_integer
  exact ok_law F T C__law_bag C__law_pool C__law_rows C__law_pick C__law_word C__law_distinct C__law_best
end K13
open PySem PySem.W PySem.Calls PyProof.Rows
theorem PySem.Challenge.cw_fablemill_k13_whole_best_lot_holds : PySem.Challenge.rw_fablemill_k13_whole_best_lot.Holds := by
  w_on; o_law
  refine HandSHeadRun.head_any (r := OpenLaw.row PySem.Challenge.rw_fablemill_k13_whole_best_lot) (q := view (OpenLaw.row PySem.Challenge.rw_fablemill_k13_whole_best_lot).prog [45]) (H := K13.hk) (ob := K13.ob) (M := 20000) (loose := K13.loose) (d := HandSHeadRun.topDef (OpenLaw.row PySem.Challenge.rw_fablemill_k13_whole_best_lot).prog 45) (kwd := []) K13.ob_eq
    (by kernel_rfl) (fun s => by kernel_rfl) K13.run (by kernel_rfl) (by kernel_rfl) (by kernel_rfl) (by rfl) (by first | assumption | decide +kernel) (by decide +kernel) ⟨rfl, rfl, rfl, rfl, rfl, by decide +kernel⟩ ?hw ?hc
  case hw => w_witness2
  case hc =>
    refine L2.walk_ofE (l := PySem.Challenge.rw_fablemill_k13_whole_best_lot) (n := 63) (k := 9) (x := "_law_script") (CX := L2.CX0) rfl (by decide) (by kernel_rfl) ⟨rfl, by decide, by decide⟩ ?F (fun _ _ _ _ z => z)
    intro w mg fa h Y G hmg0
    obtain ⟨K, KX, c⟩ := Y
    have hmg : mg ("law" : PySem.Str) = some (.ref fa) := by
      have e : (HandSHeadRun.topDef (OpenLaw.row PySem.Challenge.rw_fablemill_k13_whole_best_lot).prog 45).name = ("law" : PySem.Str) := by kernel_rfl
      rw [← e]
      exact hmg0
    obtain ⟨fd, hb, hF⟩ := K13.facts (w := w) KX G hmg c
    exact ⟨K, fd, (K13.spLaw K), KX, hb, fun H a ns hl _ hS => ⟨a, ns, rfl, hS, Nat.le_trans hl (by decide), fun _ => rfl⟩, hF⟩
